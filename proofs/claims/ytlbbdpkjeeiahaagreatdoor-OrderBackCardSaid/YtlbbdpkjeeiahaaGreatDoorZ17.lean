/- Part 17 of the proof. -/
import Derived.Test.YtlbbdpkjeeiahaaGreatDoorZ15
import Derived.Test.YtlbbdpkjeeiahaaGreatDoorZ16
import Derived.Test.YtlbbdpkjeeiahaaGreatDoorZ13
set_option maxHeartbeats 8000000
set_option linter.unusedVariables false
set_option maxRecDepth 10000
open Nat (reduceLT reduceAdd reduceEqDiff reduceLeDiff reduceMul)
open List (mem_of_getElem? length_take length_nil length_append length_cons take_of_length_le getElem?_set_ne take_add_one length_map getElem?_set_self mem_cons mem_singleton mem_cons_self mem_cons_of_mem mem_range append_assoc map_cons mem_map length_set mem_append mem_iff_getElem? nodup_cons)
open Int (reduceNeg)
section
namespace Go.Proofs.YtlbbdpkjeeiahaaGreatDoor
open Go Go.Ax Go.AxS
section
section
variable {E:Env} {Z:Sg} {K:V -> Sg -> Prop}
theorem q_ {k:Nat} {caps:List V} (hc:∀ c ∈ caps,Ax.bD c = true) (Z:Sg):aT Z E.ty true (.fn k [] caps) = some (.fn k [] caps):=by
 have e:aX (aT.one Z E.ty true) caps = some caps:=iR fun c hx=>by
  have:=cO (Z:=Z) (ty:=E.ty) (g:=true) (hc c hx) (b_ (hc c hx))
  have h2:=hc c hx
  cases c <;> first | exact this | cases h2
 simp only [aT,e,aX]
theorem Rn (h:bM E) {a:V} {l:List aU} {k:Nat} {caps:List V} {P:aU -> Bool} (ha:LS aK 9 Z a l) (hsm:l.length <= 4294967296) (hc:∀ c ∈ caps,Ax.bD c = true) (hP:∀ (y:aU) (v:V),y ∈ l -> v = .str y -> aB E k ([v] ++ caps) [] fun u Y=>Y = [] /\ u = .bool (P y)) {fv:V} (ef:aT Z E.ty true fv = some (.fn k [] caps)):aB E 65 [a,fv] Z K = K (.int .i64 (idx (bE P l))) Z:=by
 refine aB.of ?_
 obtain ⟨a',ea,ia⟩:=jJ h ha
 rw [aH h.hs65 h.sp65 h.fn65 h.md65 (args':=[a',.fn k [] caps]) (by simp only [aX,ea,ef]),aZ (by kernel_rfl)]
 have la:=bN h ia
 simp only [aA,Tryz.f65,KP,↓reduceIte,reduceLT,reduceAdd,reduceCtorEq,reduceNeg,la]
 refine aV (fun i F Y=>Y = [] /\ F.get 0 = a' /\ F.get 1 = .fn k [] caps /\ F.get 8 = .int .i64 (i:Int) /\ F.get 7 = .int .i64 (l.length:Int) /\ ∀ j y,j < i -> l[j]? = some y -> P y = false) l.length ?_ ?_ l.length 0 _ _ (by omega) ⟨rfl,(gR (by simp +decide only [GS,and_self]) (fun j y hj=>by omega))⟩
 ·rintro i F Y hi ⟨rfl,g0,g1,g8,g7,hp⟩ next
  obtain ⟨x,hx⟩:∃ x,l[i]? = some x:=⟨_,List.getElem?_eq_getElem hi⟩
  obtain ⟨g,e1⟩:=gC h ia hx
  have hv:V.str x = .str x:=rfl
  have hlt:=eD hi
  have hadd:=bZ i (by omega)
  rw [aF]
  simp only [KP,Ax.loadAt,↓reduceIte,reduceEqDiff,reduceLT,reduceCtorEq,reduceNeg,h.dA,g0,g1,g7,g8,hlt,e1]
  refine aN (hP x _ (mem_of_getElem? hx) hv) ?_
  rintro u Y ⟨rfl,rfl⟩
  by_cases hxs:P x = true
  ·simp only [KP,↓reduceIte,reduceEqDiff,reduceLT,reduceNeg,hxs]
   rw [gK (i:=i) (x:=x) hp hx hxs]
   exact rfl
  ·have hxs:P x = false:=by simpa using hxs
   simp only [KP,↓reduceIte,reduceEqDiff,reduceLT,reduceNeg,g8,hxs,hadd]
   refine next _ _ ⟨rfl,(gR (by simp +decide only [GS,g0,g1,g7,and_self]) (fun j y hj hy=>?_))⟩
   rcases Nat.lt_or_ge j i with g | g
   ·exact hp j y g hy
   ·obtain rfl:j = i:=by omega
    rw [hx] at hy; cases hy; exact hxs
 ·rintro F Y ⟨rfl,g0,g1,g8,g7,hp⟩
  have hlt:=eE (Nat.lt_irrefl l.length)
  rw [aF]
  simp only [KP,↓reduceIte,reduceLT,reduceNeg,g7,g8,hlt]
  rw [fH fun x hx=>by
   obtain ⟨j,hj,e⟩:=List.getElem_of_mem hx
   exact hp j x hj (by rw [List.getElem?_eq_getElem hj,e])]
  exact rfl
theorem TF (h:bM E) {a:V} {l:List aU} {k:Nat} {caps:List V} {P:aU -> Bool} (ha:LS aK 9 Z a l) (hsm:l.length <= 4294967296) (hc:∀ c ∈ caps,Ax.bD c = true) (hP:∀ (y:aU) (v:V),y ∈ l -> v = .str y -> aB E k ([v] ++ caps) [] fun u Y=>Y = [] /\ u = .bool (P y)):aB E 65 [a,.fn k [] caps] Z K = K (.int .i64 (idx (bE P l))) Z:=Rn h ha hsm hc hP (q_ hc Z)
theorem qQ (h:bM E) {a:V} {l:List aU} {k:Nat} {caps:List V} {P:aU -> Bool} (ha:LS aK 9 Z a l) (hsm:l.length <= 4294967296) (hc:∀ c ∈ caps,Ax.bD c = true) (hP:∀ (y:aU) (v:V),y ∈ l -> v = .str y -> aB E k ([v] ++ caps) [] fun u Y=>Y = [] /\ u = .bool (P y)) {fv:V} (ef:aT Z E.ty true fv = some (.fn k [] caps)):aB E 67 [a,fv] Z K = K (.bool (l.any P)) Z:=by
 refine aB.of ?_
 obtain ⟨a',ea,ia⟩:=jJ h ha
 rw [aH h.hs67 h.sp67 h.fn67 h.md67 (args':=[a',.fn k [] caps]) (by simp only [aX,ea,ef]),aZ (by kernel_rfl)]
 have key:=fun K=>TF (Z:=[]) (K:=K) h (ia.ls [] 9) hsm hc hP
 have kk:=dM key
 simp only [aA,Tryz.f67,KP,↓reduceIte,reduceEqDiff,reduceLT,reduceAdd,reduceCtorEq,kk,kQ,cC]
 exact rfl
theorem Kh (h:bM E) {a:V} {l:List aU} {k:Nat} {caps:List V} {P:aU -> Bool} (ha:LS aK 9 Z a l) (hsm:l.length <= 4294967296) (hc:∀ c ∈ caps,Ax.bD c = true) (hP:∀ (y:aU) (v:V),y ∈ l -> v = .str y -> aB E k ([v] ++ caps) [] fun u Y=>Y = [] /\ u = .bool (P y)):aB E 67 [a,.fn k [] caps] Z K = K (.bool (l.any P)) Z:=qQ h ha hsm hc hP (q_ hc Z)
theorem JT (h:bM E) {a:V} {l:List aU} {k:Nat} {caps:List V} {P:aU -> Bool} (ha:LS aK 9 Z a l) (hsm:l.length <= 4294967296) (hc:∀ c ∈ caps,Ax.bD c = true) (hP:∀ (y:aU) (v:V),y ∈ l -> v = .str y -> aB E k ([v] ++ caps) [] fun u Y=>Y = [] /\ u = .bool (P y)):KC E 67 [a,.fn k [] caps] Z (.bool (l.any P)) Z:=dM fun _=>Kh h ha hsm hc hP
theorem LN (h:bM E) {a:V} {l:List AxS.Step} {k:Nat} {caps:List V} {P:AxS.Step -> Bool} (ha:LS eW 75 Z a l) (hsm:l.length <= 4294967296) (hc:∀ c ∈ caps,Ax.bD c = true) (hP:∀ (y:AxS.Step) (v:V),y ∈ l -> LY v y -> aB E k ([v] ++ caps) [] fun u Y=>Y = [] /\ u = .bool (P y)) {fv:V} (ef:aT Z E.ty true fv = some (.fn k [] caps)):aB E 237 [a,fv] Z K = K (.int .i64 (idx (bE P l))) Z:=by
 refine aB.of ?_
 obtain ⟨a',ea,ia⟩:=Bv h ha
 rw [aH h.WL h.Uj h.XC h.VQ (args':=[a',.fn k [] caps]) (by simp only [aX,ea,ef]),aZ (by kernel_rfl)]
 have la:=kY h ia
 simp only [aA,Tryz.f237,KP,↓reduceIte,reduceLT,reduceAdd,reduceCtorEq,reduceNeg,la]
 refine aV (fun i F Y=>Y = [] /\ F.get 0 = a' /\ F.get 1 = .fn k [] caps /\ F.get 8 = .int .i64 (i:Int) /\ F.get 7 = .int .i64 (l.length:Int) /\ ∀ j y,j < i -> l[j]? = some y -> P y = false) l.length ?_ ?_ l.length 0 _ _ (by omega) ⟨rfl,(gR (by simp +decide only [GS,and_self]) (fun j y hj=>by omega))⟩
 ·rintro i F Y hi ⟨rfl,g0,g1,g8,g7,hp⟩ next
  obtain ⟨x,hx⟩:∃ x,l[i]? = some x:=⟨_,List.getElem?_eq_getElem hi⟩
  obtain ⟨g,p1,p2,e1,i1,i2⟩:=uF h ia hx
  have hv:LY (.agg [.str x.out,.int .i64 x.op,p1,p2,.int .i64 x.n]) x:=⟨p1,p2,rfl,i1,i2⟩
  have hlt:=eD hi
  have hadd:=bZ i (by omega)
  rw [aF]
  simp only [KP,Ax.loadAt,↓reduceIte,reduceEqDiff,reduceLT,reduceAdd,reduceCtorEq,reduceNeg,h.cQ,g0,g1,g7,g8,hlt,e1]
  refine aN (hP x _ (mem_of_getElem? hx) hv) ?_
  rintro u Y ⟨rfl,rfl⟩
  by_cases hxs:P x = true
  ·simp only [KP,↓reduceIte,reduceEqDiff,reduceLT,reduceNeg,hxs]
   rw [gK (i:=i) (x:=x) hp hx hxs]
   exact rfl
  ·have hxs:P x = false:=by simpa using hxs
   simp only [KP,↓reduceIte,reduceEqDiff,reduceLT,reduceNeg,g8,hxs,hadd]
   refine next _ _ ⟨rfl,(gR (by simp +decide only [GS,g0,g1,g7,and_self]) (fun j y hj hy=>?_))⟩
   rcases Nat.lt_or_ge j i with g | g
   ·exact hp j y g hy
   ·obtain rfl:j = i:=by omega
    rw [hx] at hy; cases hy; exact hxs
 ·rintro F Y ⟨rfl,g0,g1,g8,g7,hp⟩
  have hlt:=eE (Nat.lt_irrefl l.length)
  rw [aF]
  simp only [KP,↓reduceIte,reduceLT,reduceNeg,g7,g8,hlt]
  rw [fH fun x hx=>by
   obtain ⟨j,hj,e⟩:=List.getElem_of_mem hx
   exact hp j x hj (by rw [List.getElem?_eq_getElem hj,e])]
  exact rfl
theorem OI (h:bM E) {a:V} {l:List AxS.Step} {k:Nat} {caps:List V} {P:AxS.Step -> Bool} (ha:LS eW 75 Z a l) (hsm:l.length <= 4294967296) (hc:∀ c ∈ caps,Ax.bD c = true) (hP:∀ (y:AxS.Step) (v:V),y ∈ l -> LY v y -> aB E k ([v] ++ caps) [] fun u Y=>Y = [] /\ u = .bool (P y)):aB E 237 [a,.fn k [] caps] Z K = K (.int .i64 (idx (bE P l))) Z:=LN h ha hsm hc hP (q_ hc Z)
theorem II (h:bM E) {a:V} {l:List AxS.Step} {k:Nat} {caps:List V} {P:AxS.Step -> Bool} (ha:LS eW 75 Z a l) (hsm:l.length <= 4294967296) (hc:∀ c ∈ caps,Ax.bD c = true) (hP:∀ (y:AxS.Step) (v:V),y ∈ l -> LY v y -> aB E k ([v] ++ caps) [] fun u Y=>Y = [] /\ u = .bool (P y)) {fv:V} (ef:aT Z E.ty true fv = some (.fn k [] caps)):aB E 200 [a,fv] Z K = K (.bool (l.any P)) Z:=by
 refine aB.of ?_
 obtain ⟨a',ea,ia⟩:=Bv h ha
 rw [aH h.WT h.Ur h.XJ h.VY (args':=[a',.fn k [] caps]) (by simp only [aX,ea,ef]),aZ (by kernel_rfl)]
 have key:=fun K=>OI (Z:=[]) (K:=K) h (ia.ls [] 75) hsm hc hP
 have kk:=dM key
 simp only [aA,Tryz.f200,KP,↓reduceIte,reduceEqDiff,reduceLT,reduceAdd,reduceCtorEq,kk,kQ,cC]
 exact rfl
theorem LO (h:bM E) {a:V} {l:List AxS.Step} {k:Nat} {caps:List V} {P:AxS.Step -> Bool} (ha:LS eW 75 Z a l) (hsm:l.length <= 4294967296) (hc:∀ c ∈ caps,Ax.bD c = true) (hP:∀ (y:AxS.Step) (v:V),y ∈ l -> LY v y -> aB E k ([v] ++ caps) [] fun u Y=>Y = [] /\ u = .bool (P y)):aB E 200 [a,.fn k [] caps] Z K = K (.bool (l.any P)) Z:=II h ha hsm hc hP (q_ hc Z)
theorem Le (h:bM E) {a:V} {l:List AxS.Step} {k:Nat} {caps:List V} {P:AxS.Step -> Bool} (ha:LS eW 75 Z a l) (hsm:l.length <= 4294967296) (hc:∀ c ∈ caps,Ax.bD c = true) (hP:∀ (y:AxS.Step) (v:V),y ∈ l -> LY v y -> aB E k ([v] ++ caps) [] fun u Y=>Y = [] /\ u = .bool (P y)):KC E 200 [a,.fn k [] caps] Z (.bool (l.any P)) Z:=dM fun _=>LO h ha hsm hc hP
theorem YH (h:bM E) {a:V} {l:List aU} {s:aU} (ha:LS aK 9 Z a l) (hsm:l.length <= 4294967296):aB E 131 [a,.str s] Z K = K (.int .i64 (idx (bE (fun x=>decide (x = s)) l))) Z:=by
 refine aB.of ?_
 obtain ⟨a',ea,ia⟩:=jJ h ha
 rw [aH h.Xc h.UH h.XX h.Wd (args':=[a',.str s]) (by simp only [aX,ea,cZ]),aZ (by kernel_rfl)]
 have la:=bN h ia
 simp only [aA,Tryz.f131,KP,↓reduceIte,reduceLT,reduceAdd,reduceCtorEq,reduceNeg,la]
 refine aV (fun i F Y=>Y = [] /\ F.get 0 = a' /\ F.get 1 = .str s /\ F.get 8 = .int .i64 (i:Int) /\ F.get 7 = .int .i64 (l.length:Int) /\ ∀ j y,j < i -> l[j]? = some y -> y ≠ s) l.length ?_ ?_ l.length 0 _ _ (by omega) ⟨rfl,(gR (by simp +decide only [GS,and_self]) (fun j y hj=>by omega))⟩
 ·rintro i F Y hi ⟨rfl,g0,g1,g8,g7,hp⟩ next
  obtain ⟨x,hx⟩:∃ x,l[i]? = some x:=⟨_,List.getElem?_eq_getElem hi⟩
  obtain ⟨g,e1⟩:=gC h ia hx
  have hlt:=eD hi
  have hadd:=bZ i (by omega)
  rw [aF]
  by_cases hxs:x = s
  ·have hs:=g_ hxs.symm
   simp only [KP,Ax.loadAt,↓reduceIte,reduceEqDiff,reduceLT,reduceCtorEq,reduceNeg,h.dA,g0,g1,g7,g8,hlt,e1,hs]
   rw [gK (i:=i) (x:=x) (fun j y hj hy=>decide_eq_false (hp j y hj hy)) hx (decide_eq_true hxs)]
   exact rfl
  ·have hs:=fW (Ne.symm hxs)
   simp only [KP,Ax.loadAt,↓reduceIte,reduceEqDiff,reduceLT,reduceCtorEq,reduceNeg,h.dA,g0,g1,g7,g8,hlt,e1,hs,hadd]
   refine next _ _ ⟨rfl,(gR (by simp +decide only [GS,g0,g1,g7,and_self]) (fun j y hj hy=>?_))⟩
   rcases Nat.lt_or_ge j i with g | g
   ·exact hp j y g hy
   ·obtain rfl:j = i:=by omega
    rw [hx] at hy; cases hy; exact hxs
 ·rintro F Y ⟨rfl,g0,g1,g8,g7,hp⟩
  have hlt:=eE (Nat.lt_irrefl l.length)
  rw [aF]
  simp only [KP,↓reduceIte,reduceLT,reduceNeg,g7,g8,hlt]
  rw [fH fun x hx=>by
   obtain ⟨j,hj,e⟩:=List.getElem_of_mem hx
   exact decide_eq_false (hp j x hj (by rw [List.getElem?_eq_getElem hj,e]))]
  exact rfl
theorem TK (h:bM E) {a:V} {l:List aU} {s:aU} (ha:LS aK 9 Z a l) (hsm:l.length <= 4294967296):aB E 92 [a,.str s] Z K = K (.bool (decide (s ∈ l))) Z:=by
 refine aB.of ?_
 obtain ⟨a',ea,ia⟩:=jJ h ha
 rw [aH h.hs92 h.sp92 h.fn92 h.md92 (args':=[a',.str s]) (by simp only [aX,ea,cZ]),aZ (by kernel_rfl)]
 have kk:=dM (fun K=>YH (Z:=[]) (s:=s) (K:=K) h (ia.ls [] 9) hsm)
 simp only [aA,Tryz.f92,KP,↓reduceIte,reduceEqDiff,reduceLT,reduceAdd,reduceCtorEq,kk,kQ,cC,any_eq]
 exact rfl
theorem B_ (h:bM E) {a:V} {l:List aU} {s:aU} (ha:LS aK 9 Z a l) (hsm:l.length <= 4294967296):KC E 92 [a,.str s] Z (.bool (decide (s ∈ l))) Z:=dM fun _=>TK h ha hsm
end
end
section
section
variable {E:Env} {Z:Sg} {K:V -> Sg -> Prop}
theorem TA (h:bM E) {c:Nat}:aB E 253 [.int .i32 (c:Int)] Z K = K (.bool (sign c)) Z:=by
 refine aB.of ?_
 rw [aH h.WI h.Ug h.Xz h.VN (args':=[.int .i32 (c:Int)]) (by simp only [aX,show aT Z E.ty true (.int .i32 (c:Int)) = some (.int .i32 (c:Int)) from rfl]),aZ (by kernel_rfl)]
 have hcut:(0 <= c /\ c <= 44) \/ (45 <= c /\ c <= 45) \/ (46 <= c /\ c <= 46) \/ (47 <= c /\ c <= 47) \/ (48 <= c /\ c <= 57) \/ (58 <= c /\ c <= 64) \/ (65 <= c /\ c <= 90) \/ (91 <= c /\ c <= 94) \/ (95 <= c /\ c <= 95) \/ (96 <= c /\ c <= 96) \/ (97 <= c /\ c <= 122) \/ (123 <= c /\ 123 <= c):=by omega
 rcases hcut with ⟨h1,h2⟩ | ⟨h1,h2⟩ | ⟨h1,h2⟩ | ⟨h1,h2⟩ | ⟨h1,h2⟩ | ⟨h1,h2⟩ | ⟨h1,h2⟩ | ⟨h1,h2⟩ | ⟨h1,h2⟩ | ⟨h1,h2⟩ | ⟨h1,h2⟩ | ⟨h1,h2⟩
 ·rw [show sign c = false from by unfold sign; simp; omega]
  have q0:decide ((97:Int) <= (c:Int)) = false:=decide_eq_false (by omega)
  have q2:decide ((65:Int) <= (c:Int)) = false:=decide_eq_false (by omega)
  have q4:decide ((48:Int) <= (c:Int)) = false:=decide_eq_false (by omega)
  have q6:decide ((c:Int) = 46) = false:=decide_eq_false (by omega)
  have q7:decide ((c:Int) = 95) = false:=decide_eq_false (by omega)
  have q8:decide ((c:Int) = 45) = false:=decide_eq_false (by omega)
  simp only [aA,Tryz.f253,KP,↓reduceIte,reduceEqDiff,reduceLT,reduceCtorEq,q0,q2,q4,q6,q7,q8]
  exact rfl
 ·rw [show sign c = true from by unfold sign; simp; omega]
  have q0:decide ((97:Int) <= (c:Int)) = false:=decide_eq_false (by omega)
  have q2:decide ((65:Int) <= (c:Int)) = false:=decide_eq_false (by omega)
  have q4:decide ((48:Int) <= (c:Int)) = false:=decide_eq_false (by omega)
  have q6:decide ((c:Int) = 46) = false:=decide_eq_false (by omega)
  have q7:decide ((c:Int) = 95) = false:=decide_eq_false (by omega)
  have q8:decide ((c:Int) = 45) = true:=decide_eq_true (by omega)
  simp only [aA,Tryz.f253,KP,↓reduceIte,reduceEqDiff,reduceLT,reduceCtorEq,q0,q2,q4,q6,q7,q8]
  exact rfl
 ·rw [show sign c = true from by unfold sign; simp; omega]
  have q0:decide ((97:Int) <= (c:Int)) = false:=decide_eq_false (by omega)
  have q2:decide ((65:Int) <= (c:Int)) = false:=decide_eq_false (by omega)
  have q4:decide ((48:Int) <= (c:Int)) = false:=decide_eq_false (by omega)
  have q6:decide ((c:Int) = 46) = true:=decide_eq_true (by omega)
  simp only [aA,Tryz.f253,KP,↓reduceIte,reduceEqDiff,reduceLT,reduceCtorEq,q0,q2,q4,q6]
  exact rfl
 ·rw [show sign c = false from by unfold sign; simp; omega]
  have q0:decide ((97:Int) <= (c:Int)) = false:=decide_eq_false (by omega)
  have q2:decide ((65:Int) <= (c:Int)) = false:=decide_eq_false (by omega)
  have q4:decide ((48:Int) <= (c:Int)) = false:=decide_eq_false (by omega)
  have q6:decide ((c:Int) = 46) = false:=decide_eq_false (by omega)
  have q7:decide ((c:Int) = 95) = false:=decide_eq_false (by omega)
  have q8:decide ((c:Int) = 45) = false:=decide_eq_false (by omega)
  simp only [aA,Tryz.f253,KP,↓reduceIte,reduceEqDiff,reduceLT,reduceCtorEq,q0,q2,q4,q6,q7,q8]
  exact rfl
 ·rw [show sign c = true from by unfold sign; simp; omega]
  have q0:decide ((97:Int) <= (c:Int)) = false:=decide_eq_false (by omega)
  have q2:decide ((65:Int) <= (c:Int)) = false:=decide_eq_false (by omega)
  have q4:decide ((48:Int) <= (c:Int)) = true:=decide_eq_true (by omega)
  have q5:decide ((c:Int) <= 57) = true:=decide_eq_true (by omega)
  simp only [aA,Tryz.f253,KP,↓reduceIte,reduceEqDiff,reduceLT,reduceCtorEq,q0,q2,q4,q5]
  exact rfl
 ·rw [show sign c = false from by unfold sign; simp; omega]
  have q0:decide ((97:Int) <= (c:Int)) = false:=decide_eq_false (by omega)
  have q2:decide ((65:Int) <= (c:Int)) = false:=decide_eq_false (by omega)
  have q4:decide ((48:Int) <= (c:Int)) = true:=decide_eq_true (by omega)
  have q5:decide ((c:Int) <= 57) = false:=decide_eq_false (by omega)
  have q6:decide ((c:Int) = 46) = false:=decide_eq_false (by omega)
  have q7:decide ((c:Int) = 95) = false:=decide_eq_false (by omega)
  have q8:decide ((c:Int) = 45) = false:=decide_eq_false (by omega)
  simp only [aA,Tryz.f253,KP,↓reduceIte,reduceEqDiff,reduceLT,reduceCtorEq,q0,q2,q4,q5,q6,q7,q8]
  exact rfl
 ·rw [show sign c = true from by unfold sign; simp; omega]
  have q0:decide ((97:Int) <= (c:Int)) = false:=decide_eq_false (by omega)
  have q2:decide ((65:Int) <= (c:Int)) = true:=decide_eq_true (by omega)
  have q3:decide ((c:Int) <= 90) = true:=decide_eq_true (by omega)
  simp only [aA,Tryz.f253,KP,↓reduceIte,reduceEqDiff,reduceLT,reduceCtorEq,q0,q2,q3]
  exact rfl
 ·rw [show sign c = false from by unfold sign; simp; omega]
  have q0:decide ((97:Int) <= (c:Int)) = false:=decide_eq_false (by omega)
  have q2:decide ((65:Int) <= (c:Int)) = true:=decide_eq_true (by omega)
  have q3:decide ((c:Int) <= 90) = false:=decide_eq_false (by omega)
  have q4:decide ((48:Int) <= (c:Int)) = true:=decide_eq_true (by omega)
  have q5:decide ((c:Int) <= 57) = false:=decide_eq_false (by omega)
  have q6:decide ((c:Int) = 46) = false:=decide_eq_false (by omega)
  have q7:decide ((c:Int) = 95) = false:=decide_eq_false (by omega)
  have q8:decide ((c:Int) = 45) = false:=decide_eq_false (by omega)
  simp only [aA,Tryz.f253,KP,↓reduceIte,reduceEqDiff,reduceLT,reduceCtorEq,q0,q2,q3,q4,q5,q6,q7,q8]
  exact rfl
 ·rw [show sign c = true from by unfold sign; simp; omega]
  have q0:decide ((97:Int) <= (c:Int)) = false:=decide_eq_false (by omega)
  have q2:decide ((65:Int) <= (c:Int)) = true:=decide_eq_true (by omega)
  have q3:decide ((c:Int) <= 90) = false:=decide_eq_false (by omega)
  have q4:decide ((48:Int) <= (c:Int)) = true:=decide_eq_true (by omega)
  have q5:decide ((c:Int) <= 57) = false:=decide_eq_false (by omega)
  have q6:decide ((c:Int) = 46) = false:=decide_eq_false (by omega)
  have q7:decide ((c:Int) = 95) = true:=decide_eq_true (by omega)
  simp only [aA,Tryz.f253,KP,↓reduceIte,reduceEqDiff,reduceLT,reduceCtorEq,q0,q2,q3,q4,q5,q6,q7]
  exact rfl
 ·rw [show sign c = false from by unfold sign; simp; omega]
  have q0:decide ((97:Int) <= (c:Int)) = false:=decide_eq_false (by omega)
  have q2:decide ((65:Int) <= (c:Int)) = true:=decide_eq_true (by omega)
  have q3:decide ((c:Int) <= 90) = false:=decide_eq_false (by omega)
  have q4:decide ((48:Int) <= (c:Int)) = true:=decide_eq_true (by omega)
  have q5:decide ((c:Int) <= 57) = false:=decide_eq_false (by omega)
  have q6:decide ((c:Int) = 46) = false:=decide_eq_false (by omega)
  have q7:decide ((c:Int) = 95) = false:=decide_eq_false (by omega)
  have q8:decide ((c:Int) = 45) = false:=decide_eq_false (by omega)
  simp only [aA,Tryz.f253,KP,↓reduceIte,reduceEqDiff,reduceLT,reduceCtorEq,q0,q2,q3,q4,q5,q6,q7,q8]
  exact rfl
 ·rw [show sign c = true from by unfold sign; simp; omega]
  have q0:decide ((97:Int) <= (c:Int)) = true:=decide_eq_true (by omega)
  have q1:decide ((c:Int) <= 122) = true:=decide_eq_true (by omega)
  simp only [aA,Tryz.f253,KP,↓reduceIte,reduceEqDiff,reduceLT,reduceCtorEq,q0,q1]
  exact rfl
 ·rw [show sign c = false from by unfold sign; simp; omega]
  have q0:decide ((97:Int) <= (c:Int)) = true:=decide_eq_true (by omega)
  have q1:decide ((c:Int) <= 122) = false:=decide_eq_false (by omega)
  have q2:decide ((65:Int) <= (c:Int)) = true:=decide_eq_true (by omega)
  have q3:decide ((c:Int) <= 90) = false:=decide_eq_false (by omega)
  have q4:decide ((48:Int) <= (c:Int)) = true:=decide_eq_true (by omega)
  have q5:decide ((c:Int) <= 57) = false:=decide_eq_false (by omega)
  have q6:decide ((c:Int) = 46) = false:=decide_eq_false (by omega)
  have q7:decide ((c:Int) = 95) = false:=decide_eq_false (by omega)
  have q8:decide ((c:Int) = 45) = false:=decide_eq_false (by omega)
  simp only [aA,Tryz.f253,KP,↓reduceIte,reduceEqDiff,reduceLT,reduceCtorEq,q0,q1,q2,q3,q4,q5,q6,q7,q8]
  exact rfl
theorem SX (h:bM E) {c:Nat}:KC E 253 [.int .i32 (c:Int)] Z (.bool (sign c)) Z:=dM fun _=>TA h
theorem LJ (h:bM E) {c:Nat}:aB E 252 [.int .i32 (c:Int)] Z K = K (.bool (!sign c)) Z:=by
 refine aB.of ?_
 rw [aH h.WJ h.Uh h.XA h.VO (args':=[.int .i32 (c:Int)]) (by simp only [aX,show aT Z E.ty true (.int .i32 (c:Int)) = some (.int .i32 (c:Int)) from rfl]),aZ (by kernel_rfl)]
 have ks:=fun (Y:Sg)=>SX (Z:=Y) h (c:=c)
 simp only [aA,Tryz.f252,KP,↓reduceIte,reduceLT,reduceCtorEq,ks]
 exact rfl
theorem byte_at {s:aU} {pos ch:Nat} (hc:s[pos]? = some ch) (h:ch < 256):((qW s).get! pos).toNat = ch:=by
 show ((s.map UInt8.ofNat).toArray[pos]!).toNat = ch
 have e:(s.map UInt8.ofNat).toArray[pos]? = some (UInt8.ofNat ch):=by simp [hc]
 rw [getElem!_def,e]
 simp only [UInt8.toNat_ofNat']
 omega
theorem PD {s:aU} {pos ch:Nat} (hc:s[pos]? = some ch) (h1:¬ ch < 128) (h2:ch < 256):128 <= (Utf8.decode (qW s) pos).1:=by
 unfold Utf8.decode
 simp only [Nat.add_zero,byte_at hc h2,h1,if_false]
 repeat' split
 all_goals first
  | (simp only [Utf8.runeError]; omega)
  | (simp only [Bool.and_eq_true,beq_iff_eq,decide_eq_true_eq,ge_iff_le] at *; omega)
theorem F_ {c:Nat} (h:128 <= c):sign c = false:=by
 unfold sign; simp; omega
theorem Iv (h:bM E):nC E 4 false (.bool true) (.bool true) = some true:=by unfold nC; rw [h.Df]; rfl
theorem Tg (h:bM E):nC E 4 false (.bool false) (.bool true) = some false:=by unfold nC; rw [h.Df]; rfl
theorem b_xF (h:bM E) {s:aU} {k:Nat} {P:Nat -> Bool} (hsm:s.length <= 4294967296) (hP:∀ (Z:Sg) (r:Nat),aB E k [.int .i32 (r:Int)] Z fun u Y=>Y = Z /\ u = .bool (P r)) (hhi:∀ r,128 <= r -> P r = true):aB E 308 [.str s,.fn k [] [],.bool true] Z fun v Y=>Y = Z /\ ∃ n:Int,v = .int .i64 n /\ decide (0 <= n) = s.any P:=by
 have ef:=q_ (E:=E) (k:=k) (caps:=[]) (fun _ h=>by cases h) Z
 rw [aH h.WG h.Ue h.Xx h.VL (args':=[.str s,.fn k [] [],.bool true]) (by simp only [aX,cZ,ef,show aT Z E.ty true (.bool true) = some (.bool true) from rfl]),aZ (by kernel_rfl)]
 simp only [aA,Tryz.f308,KP,↓reduceIte,reduceLT,reduceAdd,reduceCtorEq,reduceNeg,h.dA,oE]
 refine aV (fun i F Y=>Y = [.Hs s i] /\ F.get 1 = .fn k [] [] /\ F.get 2 = .bool true /\ F.get 10 = .ref 0 0 /\ ∀ j y,j < i -> s[j]? = some y -> P y = false) s.length ?_ ?_ s.length 0 _ _ (by omega) ⟨rfl,(fL (by simp +decide only [GS,and_self]) (fun j y hj=>by omega))⟩
 ·rintro i F Y hi ⟨rfl,g1,g2,g10,hp⟩ next
  obtain ⟨x,hx⟩:∃ x,s[i]? = some x:=⟨_,List.getElem?_eq_getElem hi⟩
  rw [aF]
  by_cases h128:x < 128
  ·simp only [KP,↓reduceIte,reduceEqDiff,reduceLT,reduceNeg,g1,g10,uX,hx,h128]
   refine aN (hP _ x) ?_
   rintro u Y ⟨rfl,rfl⟩
   by_cases hxs:P x = true
   ·simp only [KP,↓reduceIte,reduceEqDiff,reduceLT,reduceNeg,g2,hxs,Iv h]
    exact ⟨_,rfl,by rw [show s.any P = true from List.any_eq_true.2 ⟨x,mem_of_getElem? hx,hxs⟩]; exact decide_eq_true (by omega)⟩
   ·have hxs:P x = false:=by simpa using hxs
    simp only [KP,↓reduceIte,reduceEqDiff,reduceLT,reduceNeg,g2,hxs,Tg h]
    refine next _ _ ⟨rfl,(fL (by simp +decide only [GS,g1,g2,g10,and_self]) (fun j y hj hy=>?_))⟩
    rcases Nat.lt_or_ge j i with g | g
    ·exact hp j y g hy
    ·obtain rfl:j = i:=by omega
     rw [hx] at hy; cases hy; exact hxs
  have hany:s.any P = true:=List.any_eq_true.2 ⟨x,mem_of_getElem? hx,hhi x (by omega)⟩
  by_cases h256:x < 256
  ·simp only [KP,↓reduceIte,reduceEqDiff,reduceLT,reduceNeg,g1,g10,uX,hx,h128,h256]
   refine aN (hP _ (Utf8.decode (qW s) i).1) ?_
   rintro u Y ⟨rfl,rfl⟩
   have hxs:=hhi _ (PD hx h128 h256)
   simp only [KP,↓reduceIte,reduceEqDiff,reduceLT,reduceNeg,g2,hxs,Iv h]
   exact ⟨_,rfl,by rw [hany]; exact decide_eq_true (by omega)⟩
  ·simp only [KP,↓reduceIte,reduceEqDiff,reduceLT,reduceNeg,g1,g10,uX,hx,h128,h256]
   refine aN (hP _ 65533) ?_
   rintro u Y ⟨rfl,rfl⟩
   have hxs:=hhi _ (show 128 <= 65533 by omega)
   simp only [KP,↓reduceIte,reduceEqDiff,reduceLT,reduceNeg,g2,hxs,Iv h]
   exact ⟨_,rfl,by rw [hany]; exact decide_eq_true (by omega)⟩
 ·rintro F Y ⟨rfl,g1,g2,g10,hp⟩
  have hx:s[s.length]? = none:=List.getElem?_eq_none (Nat.le_refl _)
  rw [aF]
  simp only [KP,↓reduceIte,reduceLT,reduceNeg,g10,uX,hx]
  refine ⟨-1,rfl,?_⟩
  rw [show s.any P = false from List.any_eq_false.2 fun x hx=>by
   obtain ⟨j,hj,e⟩:=List.getElem_of_mem hx
   rw [hp j x hj (by rw [List.getElem?_eq_getElem hj,e])]; simp]
  rfl
theorem TE (h:bM E) {s:aU} {k:Nat} {P:Nat -> Bool} (hsm:s.length <= 4294967296) (hP:∀ (Z:Sg) (r:Nat),aB E k [.int .i32 (r:Int)] Z fun u Y=>Y = Z /\ u = .bool (P r)) (hhi:∀ r,128 <= r -> P r = true):aB E 287 [.str s,.fn k [] []] Z fun v Y=>Y = Z /\ ∃ n:Int,v = .int .i64 n /\ decide (0 <= n) = s.any P:=by
 have ef:=q_ (E:=E) (k:=k) (caps:=[]) (fun _ h=>by cases h) Z
 rw [aH h.WH h.Uf h.Xy h.VM (args':=[.str s,.fn k [] []]) (by simp only [aX,cZ,ef]),aZ (by kernel_rfl)]
 simp only [aA,Tryz.f287,KP,↓reduceIte,reduceEqDiff,reduceLT,reduceAdd,reduceCtorEq]
 refine aN (b_xF h hsm hP hhi) ?_
 rintro v Y ⟨rfl,n,rfl,hn⟩
 simp only [KP,↓reduceIte,reduceLT]
 exact ⟨n,rfl,hn⟩
theorem Ro (h:bM E) {s:aU} {k:Nat} {P:Nat -> Bool} (hsm:s.length <= 4294967296) (hP:∀ (Z:Sg) (r:Nat),aB E k [.int .i32 (r:Int)] Z fun u Y=>Y = Z /\ u = .bool (P r)) (hhi:∀ r,128 <= r -> P r = true):aB E 251 [.str s,.fn k [] []] Z K = K (.bool (s.any P)) Z:=by
 refine aB.of ?_
 have ef:=q_ (E:=E) (k:=k) (caps:=[]) (fun _ h=>by cases h) Z
 rw [aH h.WK h.Ui h.XB h.VP (args':=[.str s,.fn k [] []]) (by simp only [aX,cZ,ef]),aZ (by kernel_rfl)]
 simp only [aA,Tryz.f251,KP,↓reduceIte,reduceEqDiff,reduceLT,reduceAdd,reduceCtorEq]
 refine aN (TE h hsm hP hhi) ?_
 rintro v Y ⟨rfl,n,rfl,hn⟩
 simp only [KP,↓reduceIte,reduceLT,hn]
 exact rfl
theorem YE (h:bM E) {p:aU} (hsm:p.length <= 4294967296):aB E 224 [.str p] Z K = K (.bool (!rC p)) Z:=by
 refine aB.of ?_
 rw [aH h.WM h.Uk h.XD h.VS (args':=[.str p]) (by simp only [aX,cZ]),aZ (by kernel_rfl)]
 by_cases h1:p = []
 ·have q1:=g_ h1
  simp only [aA,Tryz.f224,KP,↓reduceIte,reduceEqDiff,reduceLT,reduceCtorEq,kU,q1]
  rw [yS (.inl h1)]
  exact rfl
 have q1:=fW h1
 by_cases h2:p = [46]
 ·have q2:=g_ h2
  simp only [aA,Tryz.f224,KP,↓reduceIte,reduceEqDiff,reduceLT,reduceCtorEq,kU,Lu,q1,q2]
  rw [yS (.inr (.inl h2))]
  exact rfl
 have q2:=fW h2
 by_cases h3:p = [46,46]
 ·have q3:=g_ h3
  simp only [aA,Tryz.f224,KP,↓reduceIte,reduceEqDiff,reduceLT,reduceCtorEq,kU,Lu,QY,q1,q2,q3]
  rw [yS (.inr (.inr h3))]
  exact rfl
 have q3:=fW h3
 have kc:=fun (Y:Sg)=>dM (fun K=>Ro (Z:=Y) (K:=K) (s:=p) (k:=252) (P:=fun c=>!sign c) h hsm (fun Y r=>by rw [LJ h]; exact ⟨rfl,rfl⟩) (fun r hr=>by rw [F_ hr]; rfl))
 simp only [aA,Tryz.f224,KP,↓reduceIte,reduceEqDiff,reduceLT,reduceCtorEq,kU,Lu,QY,q1,q2,q3,kc]
 rw [H7 h1 h2 h3,List.not_all_eq_any_not]
 exact rfl
theorem zF:∀ l:List aU,eR aK.P (l.map fun p=>[V.str p]) l
 | []=>.nil
 | _ :: l=>.cons rfl (zF l)
theorem OG (h:bM E) {s:aU} (hsm:s.length <= 1000000000):aB E 223 [.str s] Z fun v Y=>Y = Z /\ kB aK v (cF 47 s):=by
 rw [aH h.WN h.Ul h.XE h.VT (args':=[.str s]) (by simp only [aX,cZ]),aZ (by kernel_rfl)]
 have hs:kX [.str s,.str [47]] = some (.bR false ((cF 47 s).map fun p=>[V.str p]) true):=by
  unfold kX
  exact if_pos (by omega)
 have iv:kB aK (.bR false ((cF 47 s).map fun p=>[V.str p]) true) (cF 47 s):=.inr ⟨_,_,rfl,zF _⟩
 have h5:∀ Z,cP Z E.ty false (.bR false ((cF 47 s).map fun p=>[V.str p]) true) = some (.bR false ((cF 47 s).map fun p=>[V.str p]) true):=fun Z=>(show cP Z E.ty false (.bR false ((cF 47 s).map fun p=>[V.str p]) true) = aT Z E.ty false (.bR false ((cF 47 s).map fun p=>[V.str p]) true) from rfl).trans (cO iv.is.bD iv.tag)
 have kc:=fun (Y:Sg)=>dM (fun K=>sN (Z:=Y) (K:=K) (args:=[.str s,.str [47]]) (args':=[.str s,.str [47]]) h.WY h.Uw (by simp only [aX,cZ]) hs (h5 []))
 have hb:Ax.bytes ⟨#[47]⟩ = [47]:=rfl
 simp only [aA,Tryz.f223,KP,↓reduceIte,reduceLT,reduceCtorEq,kc,h5,hb]
 exact iv
theorem EL {s:aU} (h:¬ s.length <= 40):bH s = false:=by unfold bH; rw [decide_eq_false h]; simp
theorem pE {s:aU} (h:n_ s = true):bH s = false:=by unfold bH; rw [h]; rfl
theorem YG (h:bM E) {s:aU}:aB E 186 [.str s] Z K = K (.bool (bH s)) Z:=by
 refine aB.of ?_
 rw [aH h.WV h.Ut h.XL h.V2 (args':=[.str s]) (by simp only [aX,cZ]),aZ (by kernel_rfl)]
 by_cases w0:s = [114,117,108,101]
 ·have e0:=g_ w0
  simp only [aA,Tryz.f186,KP,↓reduceIte,reduceLT,reduceCtorEq,Cy,e0]
  rw [pE (by rw [w0]; rfl)]
  exact rfl
 have e0:=fW w0
 by_cases w1:s = [105,110]
 ·have e1:=g_ w1
  simp only [aA,Tryz.f186,KP,↓reduceIte,reduceEqDiff,reduceLT,reduceCtorEq,Cy,E7,e0,e1]
  rw [pE (by rw [w1]; rfl)]
  exact rfl
 have e1:=fW w1
 by_cases w2:s = [111,117,116]
 ·have e2:=g_ w2
  simp only [aA,Tryz.f186,KP,↓reduceIte,reduceEqDiff,reduceLT,reduceCtorEq,Cy,E7,Iy,e0,e1,e2]
  rw [pE (by rw [w2]; rfl)]
  exact rfl
 have e2:=fW w2
 by_cases w3:s = [97,102,116,101,114]
 ·have e3:=g_ w3
  simp only [aA,Tryz.f186,KP,↓reduceIte,reduceEqDiff,reduceLT,reduceCtorEq,Cy,E7,Iy,Oh,e0,e1,e2,e3]
  rw [pE (by rw [w3]; rfl)]
  exact rfl
 have e3:=fW w3
 by_cases h40:s.length <= 40
 case neg=>
  have q1:decide ((s.length:Int) <= 40) = false:=decide_eq_false (by omega)
  rw [EL h40]
  simp only [aA,Tryz.f186,KP,↓reduceIte,reduceEqDiff,reduceLT,reduceCtorEq,fG h,Cy,E7,Iy,Oh,e0,e1,e2,e3,q1]
  exact rfl
 have q1:decide ((s.length:Int) <= 40) = true:=decide_eq_true (by omega)
 have hr:n_ s = false:=by unfold n_; rw [decide_eq_false w0,decide_eq_false w1,decide_eq_false w2,decide_eq_false w3]; rfl
 rw [Nu hr h40]
 simp only [aA,Tryz.f186,KP,↓reduceIte,reduceEqDiff,reduceLT,reduceCtorEq,fG h,Cy,E7,Iy,Oh,e0,e1,e2,e3,q1]
 refine aN (OG h (by omega)) ?_
 rintro v σ' ⟨rfl,hv⟩
 have hPl:=qY 47 s
 have hPp:=sS (s:=s) rfl
 generalize cF 47 s = P at *
 have kc:=fun (Y:Sg)=>JT (Z:=Y) (k:=224) (caps:=[]) (P:=fun p=>!rC p) h (hv.is.ls Y 9) (by omega) (fun _ h=>by cases h) (fun y v hy hv=>by
  subst hv
  have:=hPp y hy
  show aB E 224 [.str y] [] _
  rw [YE h (by omega)]; exact ⟨rfl,rfl⟩)
 simp only [KP,↓reduceIte,reduceEqDiff,reduceLT,kc]
 rw [<- List.not_all_eq_any_not,Bool.not_not]
 exact rfl
theorem Wz (h:bM E) {s:aU}:KC E 186 [.str s] Z (.bool (bH s)) Z:=dM fun _=>YG h
end
end
section
section
variable {E:Env} {Z:Sg} {K:V -> Sg -> Prop}
theorem OD (h:bM E) {p:Int}:aB E 169 [.int .i64 p] Z K = K (.fV [.int .i64 ((counts p).1:Nat),.int .i64 ((counts p).2.1:Nat),.int .i64 ((counts p).2.2:Nat)]) Z:=by
 refine aB.of ?_
 rw [aH h.W4 h.Uy h.XP h.V6 (args':=[.int .i64 p]) (by simp only [aX,show aT Z E.ty true (.int .i64 p) = some (.int .i64 p) from rfl]),aZ (by kernel_rfl)]
 by_cases p5:p = 5
 ·have q5:decide (p = 5) = true:=decide_eq_true p5
  simp only [aA,Tryz.f169,KP,↓reduceIte,reduceEqDiff,reduceLT,reduceCtorEq,q5]
  rw [p5]
  exact rfl
 have q5:decide (p = 5) = false:=decide_eq_false p5
 by_cases p6:p = 6
 ·have q6:decide (p = 6) = true:=decide_eq_true p6
  simp only [aA,Tryz.f169,KP,↓reduceIte,reduceEqDiff,reduceLT,reduceCtorEq,q5,q6]
  rw [p6]
  exact rfl
 have q6:decide (p = 6) = false:=decide_eq_false p6
 by_cases p7:p = 7
 ·have q7:decide (p = 7) = true:=decide_eq_true p7
  simp only [aA,Tryz.f169,KP,↓reduceIte,reduceEqDiff,reduceLT,reduceCtorEq,q5,q6,q7]
  rw [p7]
  exact rfl
 have q7:decide (p = 7) = false:=decide_eq_false p7
 by_cases p8:p = 8
 ·have q8:decide (p = 8) = true:=decide_eq_true p8
  simp only [aA,Tryz.f169,KP,↓reduceIte,reduceEqDiff,reduceLT,reduceCtorEq,q5,q6,q7,q8]
  rw [p8]
  exact rfl
 have q8:decide (p = 8) = false:=decide_eq_false p8
 have e:counts p = (1,1,0):=by unfold counts; rw [if_neg p5,if_neg p6,if_neg p7,if_neg p8]
 rw [e]
 simp only [aA,Tryz.f169,KP,↓reduceIte,reduceEqDiff,reduceLT,reduceCtorEq,q5,q6,q7,q8]
 exact rfl
theorem NU (h:bM E) {p:Int}:KC E 169 [.int .i64 p] Z (.fV [.int .i64 ((counts p).1:Nat),.int .i64 ((counts p).2.1:Nat),.int .i64 ((counts p).2.2:Nat)]) Z:=dM fun _=>OD h
theorem LK (h:bM E) {s:aU}:aB E 170 [.str s] Z K = K (.bool (decide (100 < s.length))) Z:=by
 refine aB.of ?_
 rw [aH h.WZ h.Ux h.XO h.V5 (args':=[.str s]) (by simp only [aX,cZ]),aZ (by kernel_rfl)]
 simp only [aA,Tryz.f170,KP,↓reduceIte,reduceLT,reduceCtorEq,fG h]
 rw [show decide ((100:Int) < (s.length:Int)) = decide (100 < s.length) from by rw [decide_eq_decide]; omega]
 exact rfl
theorem Gh {x:AxS.Step}:cB x = true ↔ ((1 <= x.op /\ x.op <= 9) /\ ((counts x.op).1 <= x.args.length /\ x.args.length <= (counts x.op).2.1)) /\ x.lits.length = (counts x.op).2.2 /\ (x.lits.any fun l=>decide (100 < l.length)) = false /\ (x.op = 8 -> x.lits.head? ≠ some []) /\ (0 <= x.n /\ x.n <= 2000) /\ (x.op = 9 \/ x.n = 0):=by
 have e:x.lits.all (fun l=>decide (l.length <= 100)) = !(x.lits.any fun l=>decide (100 < l.length)):=by
  rw [List.not_any_eq_all_not]
  congr 1
  funext l
  rw [<- decide_not,decide_eq_decide]
  omega
 unfold cB
 rw [e]
 simp only [Bool.and_eq_true,decide_eq_true_eq,and_assoc,Bool.not_eq_true']
theorem qC {x:AxS.Step} (h:¬ (cB x = true)):cB x = false:=by simpa using h
theorem LH (h:bM E) {v:V} {x:AxS.Step} (hv:LY v x) (hsm:x.lits.length <= 4294967296):aB E 125 [v] Z K = K (.bool (cB x)) Z:=by
 refine aB.of ?_
 have ev:=hv.snap (E:=E) Z
 obtain ⟨a,b,rfl,ia,ib⟩:=hv
 have hoka:a.a_ = true:=aJ ia.bD
 have hokb:b.a_ = true:=aJ ib.bD
 rw [aH h.Xd h.UI h.XY h.We (args':=[.agg [.str x.out,.int .i64 x.op,a,b,.int .i64 x.n]]) (by simp only [aX,ev]),aZ (by kernel_rfl)]
 have la:=bN h ia
 have lb:=bN h ib
 have hm:=Gh (x:=x)
 have kc:=fun (Y:Sg)=>NU (Z:=Y) h (p:=x.op)
 have kl:=fun (Y:Sg)=>JT (Z:=Y) (k:=170) (caps:=[]) (P:=fun l=>decide (100 < l.length)) h (ib.ls Y 9) hsm (fun _ h=>by cases h) (fun y v hy hv=>by
  subst hv
  show aB E 170 [.str y] [] _
  rw [LK h]; exact ⟨rfl,rfl⟩)
 have h8:x.op = 8 -> (counts x.op).2.2 = 2:=fun e=>by rw [e]; rfl
 generalize (counts x.op).1 = A at *
 generalize (counts x.op).2.1 = B at *
 generalize (counts x.op).2.2 = C at *
 by_cases p1:1 <= x.op
 case neg=>
  have q1:decide (x.op < 1) = true:=decide_eq_true (by omega)
  rw [qC (mt hm.1 fun hh=>by omega)]
  simp only [aA,Tryz.f125,KP,Ax.loadAt,↓reduceIte,reduceEqDiff,reduceLT,reduceAdd,reduceCtorEq,h.pW,h.cQ,kc,hoka,hokb,q1]
  exact rfl
 have q1:decide (x.op < 1) = false:=decide_eq_false (by omega)
 by_cases p2:x.op <= 9
 case neg=>
  have q2:decide ((9:Int) < x.op) = true:=decide_eq_true (by omega)
  rw [qC (mt hm.1 fun hh=>by omega)]
  simp only [aA,Tryz.f125,KP,Ax.loadAt,↓reduceIte,reduceEqDiff,reduceLT,reduceAdd,reduceCtorEq,h.pW,h.cQ,kc,hoka,hokb,q1,q2]
  exact rfl
 have q2:decide ((9:Int) < x.op) = false:=decide_eq_false (by omega)
 by_cases p3:A <= x.args.length
 case neg=>
  have q3:decide ((x.args.length:Int) < (A:Int)) = true:=decide_eq_true (by omega)
  rw [qC (mt hm.1 fun hh=>by omega)]
  simp only [aA,Tryz.f125,KP,Ax.loadAt,↓reduceIte,reduceEqDiff,reduceLT,reduceAdd,reduceCtorEq,h.pW,h.bA,h.cQ,kc,la,hoka,hokb,q1,q2,q3]
  exact rfl
 have q3:decide ((x.args.length:Int) < (A:Int)) = false:=decide_eq_false (by omega)
 by_cases p4:x.args.length <= B
 case neg=>
  have q4:decide ((B:Int) < (x.args.length:Int)) = true:=decide_eq_true (by omega)
  rw [qC (mt hm.1 fun hh=>by omega)]
  simp only [aA,Tryz.f125,KP,Ax.loadAt,↓reduceIte,reduceEqDiff,reduceLT,reduceAdd,reduceCtorEq,h.pW,h.bA,h.cQ,kc,la,hoka,hokb,q1,q2,q3,q4]
  exact rfl
 have q4:decide ((B:Int) < (x.args.length:Int)) = false:=decide_eq_false (by omega)
 by_cases p5:x.lits.length = C
 case neg=>
  have q5:decide ((x.lits.length:Int) = (C:Int)) = false:=decide_eq_false (by omega)
  rw [qC (mt hm.1 fun hh=>by omega)]
  simp only [aA,Tryz.f125,KP,Ax.loadAt,↓reduceIte,reduceEqDiff,reduceLT,reduceAdd,reduceCtorEq,h.pW,h.bA,h.cQ,kc,la,lb,hoka,hokb,q1,q2,q3,q4,q5]
  exact rfl
 have q5:decide ((x.lits.length:Int) = (C:Int)) = true:=decide_eq_true (by omega)
 by_cases p6:(x.lits.any fun l=>decide (100 < l.length)) = true
 ·rw [qC (mt hm.1 fun hh=>by rw [p6] at hh; simp at hh)]
  simp only [aA,Tryz.f125,KP,Ax.loadAt,↓reduceIte,reduceEqDiff,reduceLT,reduceAdd,reduceCtorEq,h.pW,h.bA,h.cQ,kc,kl,la,lb,hoka,hokb,q1,q2,q3,q4,q5,p6]
  exact rfl
 have q6:(x.lits.any fun l=>decide (100 < l.length)) = false:=by simpa using p6
 by_cases p8:x.op = 8
 ·have q8:decide (x.op = 8) = true:=decide_eq_true p8
  have hC:=h8 p8
  obtain ⟨y,r,hyr⟩:=List.exists_cons_of_ne_nil (show x.lits ≠ [] from fun e=>by rw [e] at p5; simp at p5; omega)
  obtain ⟨g,e1⟩:=gC h ib (i:=0) (x:=y) (by rw [hyr]; rfl)
  have e1:indexAddr E 28 b (.int .i64 0) = some (.dN g [.str y]):=e1
  by_cases hy:y = []
  ·have e2:=g_ hy
   rw [qC (mt hm.1 fun hh=>hh.2.2.2.1 p8 (by rw [hyr,hy]; rfl))]
   simp only [aA,Tryz.f125,KP,Ax.loadAt,↓reduceIte,reduceEqDiff,reduceLT,reduceAdd,reduceCtorEq,h.pW,h.dA,h.bA,h.cQ,kU,kc,kl,la,lb,hoka,hokb,q1,q2,q3,q4,q5,q6,q8,e1,e2]
   exact rfl
  have e2:=fW hy
  have hh8:x.op = 8 -> x.lits.head? ≠ some []:=fun _=>by rw [hyr]; simpa using hy
  by_cases p9:0 <= x.n
  case neg=>
   have q9:decide (x.n < 0) = true:=decide_eq_true (by omega)
   rw [qC (mt hm.1 fun hh=>by omega)]
   simp only [aA,Tryz.f125,KP,Ax.loadAt,↓reduceIte,reduceEqDiff,reduceLT,reduceAdd,reduceCtorEq,h.pW,h.dA,h.bA,h.cQ,kU,kc,kl,la,lb,hoka,hokb,q1,q2,q3,q4,q5,q6,q8,e1,e2,q9]
   exact rfl
  have q9:decide (x.n < 0) = false:=decide_eq_false (by omega)
  by_cases p10:x.n <= 2000
  case neg=>
   have Fj:decide ((2000:Int) < x.n) = true:=decide_eq_true (by omega)
   rw [qC (mt hm.1 fun hh=>by omega)]
   simp only [aA,Tryz.f125,KP,Ax.loadAt,↓reduceIte,reduceEqDiff,reduceLT,reduceAdd,reduceCtorEq,h.pW,h.dA,h.bA,h.cQ,kU,kc,kl,la,lb,hoka,hokb,q1,q2,q3,q4,q5,q6,q8,e1,e2,q9,Fj]
   exact rfl
  have Fj:decide ((2000:Int) < x.n) = false:=decide_eq_false (by omega)
  by_cases p11:x.op = 9
  ·have Hu:decide (x.op = 9) = true:=decide_eq_true p11
   rw [hm.2 ⟨⟨⟨p1,p2⟩,p3,p4⟩,p5,q6,hh8,⟨p9,p10⟩,.inl p11⟩]
   simp only [aA,Tryz.f125,KP,Ax.loadAt,↓reduceIte,reduceEqDiff,reduceLT,reduceAdd,reduceCtorEq,h.pW,h.dA,h.bA,h.cQ,kU,kc,kl,la,lb,hoka,hokb,q1,q2,q3,q4,q5,q6,q8,e1,e2,q9,Fj,Hu]
   exact rfl
  have Hu:decide (x.op = 9) = false:=decide_eq_false p11
  by_cases p12:x.n = 0
  case neg=>
   have L0:decide (x.n = 0) = false:=decide_eq_false (by omega)
   rw [qC (mt hm.1 fun hh=>by omega)]
   simp only [aA,Tryz.f125,KP,Ax.loadAt,↓reduceIte,reduceEqDiff,reduceLT,reduceAdd,reduceCtorEq,h.pW,h.dA,h.bA,h.cQ,kU,kc,kl,la,lb,hoka,hokb,q1,q2,q3,q4,q5,q6,q8,e1,e2,q9,Fj,Hu,L0]
   exact rfl
  have L0:decide (x.n = 0) = true:=decide_eq_true (by omega)
  rw [hm.2 ⟨⟨⟨p1,p2⟩,p3,p4⟩,p5,q6,hh8,⟨p9,p10⟩,.inr p12⟩]
  simp only [aA,Tryz.f125,KP,Ax.loadAt,↓reduceIte,reduceEqDiff,reduceLT,reduceAdd,reduceCtorEq,h.pW,h.dA,h.bA,h.cQ,kU,kc,kl,la,lb,hoka,hokb,q1,q2,q3,q4,q5,q6,q8,e1,e2,q9,Fj,Hu,L0]
  exact rfl
 ·have q8:decide (x.op = 8) = false:=decide_eq_false p8
  have hh8:x.op = 8 -> x.lits.head? ≠ some []:=fun e=>absurd e p8
  by_cases p9:0 <= x.n
  case neg=>
   have q9:decide (x.n < 0) = true:=decide_eq_true (by omega)
   rw [qC (mt hm.1 fun hh=>by omega)]
   simp only [aA,Tryz.f125,KP,Ax.loadAt,↓reduceIte,reduceEqDiff,reduceLT,reduceAdd,reduceCtorEq,h.pW,h.bA,h.cQ,kc,kl,la,lb,hoka,hokb,q1,q2,q3,q4,q5,q6,q8,q9]
   exact rfl
  have q9:decide (x.n < 0) = false:=decide_eq_false (by omega)
  by_cases p10:x.n <= 2000
  case neg=>
   have Fj:decide ((2000:Int) < x.n) = true:=decide_eq_true (by omega)
   rw [qC (mt hm.1 fun hh=>by omega)]
   simp only [aA,Tryz.f125,KP,Ax.loadAt,↓reduceIte,reduceEqDiff,reduceLT,reduceAdd,reduceCtorEq,h.pW,h.bA,h.cQ,kc,kl,la,lb,hoka,hokb,q1,q2,q3,q4,q5,q6,q8,q9,Fj]
   exact rfl
  have Fj:decide ((2000:Int) < x.n) = false:=decide_eq_false (by omega)
  by_cases p11:x.op = 9
  ·have Hu:decide (x.op = 9) = true:=decide_eq_true p11
   rw [hm.2 ⟨⟨⟨p1,p2⟩,p3,p4⟩,p5,q6,hh8,⟨p9,p10⟩,.inl p11⟩]
   simp only [aA,Tryz.f125,KP,Ax.loadAt,↓reduceIte,reduceEqDiff,reduceLT,reduceAdd,reduceCtorEq,h.pW,h.bA,h.cQ,kc,kl,la,lb,hoka,hokb,q1,q2,q3,q4,q5,q6,q8,q9,Fj,Hu]
   exact rfl
  have Hu:decide (x.op = 9) = false:=decide_eq_false p11
  by_cases p12:x.n = 0
  case neg=>
   have L0:decide (x.n = 0) = false:=decide_eq_false (by omega)
   rw [qC (mt hm.1 fun hh=>by omega)]
   simp only [aA,Tryz.f125,KP,Ax.loadAt,↓reduceIte,reduceEqDiff,reduceLT,reduceAdd,reduceCtorEq,h.pW,h.bA,h.cQ,kc,kl,la,lb,hoka,hokb,q1,q2,q3,q4,q5,q6,q8,q9,Fj,Hu,L0]
   exact rfl
  have L0:decide (x.n = 0) = true:=decide_eq_true (by omega)
  rw [hm.2 ⟨⟨⟨p1,p2⟩,p3,p4⟩,p5,q6,hh8,⟨p9,p10⟩,.inr p12⟩]
  simp only [aA,Tryz.f125,KP,Ax.loadAt,↓reduceIte,reduceEqDiff,reduceLT,reduceAdd,reduceCtorEq,h.pW,h.bA,h.cQ,kc,kl,la,lb,hoka,hokb,q1,q2,q3,q4,q5,q6,q8,q9,Fj,Hu,L0]
  exact rfl
theorem K7 (h:bM E) {v:V} {x:AxS.Step} (hv:LY v x) (hsm:x.lits.length <= 4294967296):KC E 125 [v] Z (.bool (cB x)) Z:=dM fun _=>LH h hv hsm
end
end
section
section
variable {E:Env} {Z:Sg} {K:V -> Sg -> Prop}
theorem Ea (h:bM E) {s:aU}:aB E 199 [.str s] Z K = K (.bool (!bH s)) Z:=by
 refine aB.of ?_
 rw [aH h.WU h.Us h.XK h.VZ (args':=[.str s]) (by simp only [aX,cZ]),aZ (by kernel_rfl)]
 have kc:=fun (Y:Sg)=>Wz (Z:=Y) h (s:=s)
 simp only [aA,Tryz.f199,KP,↓reduceIte,reduceLT,reduceCtorEq,kc]
 exact rfl
theorem DQ (h:bM E) {s:aU}:KC E 199 [.str s] Z (.bool (!bH s)) Z:=dM fun _=>Ea h
theorem A6 (h:bM E) {a:V} {l:List aU} (ha:LS aK 9 Z a l) (hsm:l.length <= 4294967296):KC E 67 [a,.fn 199 [] []] Z (.bool (!(l.all bH))) Z:=dM fun _=>by rw [List.not_all_eq_any_not]; exact Kh (k:=199) (caps:=[]) (P:=fun s=>!bH s) h ha hsm (fun _ h=>by cases h) (fun y v hy hv=>by subst hv; show aB E 199 [.str y] [] _; rw [Ea h]; exact ⟨rfl,rfl⟩)
def KB (s:AxS.Step):Bool:=bH s.out && s.args.all bH && cB s
theorem Rc (h:bM E) {v:V} {x:AxS.Step} (hv:LY v x) (h1:x.args.length <= 4294967296) (h2:x.lits.length <= 4294967296):aB E 201 [v] Z K = K (.bool (!KB x)) Z:=by
 refine aB.of ?_
 have ev:=hv.snap (E:=E) Z
 obtain ⟨a,b,rfl,ia,ib⟩:=hv
 have hoka:a.a_ = true:=aJ ia.bD
 have hokb:b.a_ = true:=aJ ib.bD
 rw [aH h.WS h.Uq h.XI h.VX (args':=[.agg [.str x.out,.int .i64 x.op,a,b,.int .i64 x.n]]) (by simp only [aX,ev]),aZ (by kernel_rfl)]
 have k1:=fun (Y:Sg)=>DQ (Z:=Y) h (s:=x.out)
 have k2:=fun (Y:Sg)=>A6 (Z:=Y) h (ia.ls Y 9) h1
 have k3:=fun (Y:Sg)=>K7 (Z:=Y) h (v:=.agg [.str x.out,.int .i64 x.op,a,b,.int .i64 x.n]) ⟨a,b,rfl,ia,ib⟩ h2
 unfold KB
 cases e1:bH x.out with
 | false=>
  simp only [aA,Tryz.f201,KP,Ax.loadAt,↓reduceIte,reduceEqDiff,reduceLT,reduceAdd,reduceCtorEq,h.dA,h.cQ,hoka,hokb,k1,e1]
  exact rfl
 | true=>
  cases e2:x.args.all bH with
  | false=>
   simp only [aA,Tryz.f201,KP,Ax.loadAt,↓reduceIte,reduceEqDiff,reduceLT,reduceAdd,reduceCtorEq,h.dA,h.bA,h.cQ,hoka,hokb,k1,k2,e1,e2]
   exact rfl
  | true=>
   simp only [aA,Tryz.f201,KP,Ax.loadAt,↓reduceIte,reduceEqDiff,reduceLT,reduceAdd,reduceCtorEq,h.dA,h.bA,h.cQ,hoka,hokb,k1,k2,k3,e1,e2]
   exact rfl
theorem DW (r:aG):j_ r = (bH r.name && decide (r.outs ≠ []) && r.ins.all bH && r.outs.all bH && r.after.all bH && r.steps.all KB):=rfl
theorem Rb (h:bM E) {v:V} {x:aG} (hv:Hl v x) (hs:Small x):aB E 167 [v] Z K = K (.bool (j_ x)) Z:=by
 refine aB.of ?_
 have ev:=hv.snap (E:=E) Z
 obtain ⟨a,b,c,d,rfl,ia,ib,ic,id⟩:=hv
 have o1:=aJ ia.bD
 have o2:=aJ ib.bD
 have o3:=aJ ic.bD
 have o4:=aJ id.bD
 have l1:=hs.ins
 have l2:=hs.outs
 have l3:=hs.after
 have l4:=hs.steps
 rw [aH h.W6 h.UA h.XR h.V8 (args':=[.agg [.str x.name,a,b,c,d]]) (by simp only [aX,ev]),aZ (by kernel_rfl)]
 have lb:=bN h ib
 have kn:=fun (Y:Sg)=>DQ (Z:=Y) h (s:=x.name)
 have k1:=fun (Y:Sg)=>A6 (Z:=Y) h (ia.ls Y 9) (by omega)
 have k2:=fun (Y:Sg)=>A6 (Z:=Y) h (ib.ls Y 9) (by omega)
 have k3:=fun (Y:Sg)=>A6 (Z:=Y) h (ic.ls Y 9) (by omega)
 have k4:=fun (Y:Sg)=>Le (Z:=Y) (k:=201) (caps:=[]) (P:=fun s=>!KB s) h (id.ls Y 75) (by omega) (fun _ h=>by cases h) (fun y v hy hv=>by
  have hy1:=hs.args y hy
  have hy2:=hs.lits y hy
  show aB E 201 [v] [] _
  rw [Rc h hv (by omega) (by omega)]; exact ⟨rfl,rfl⟩)
 rw [DW]
 cases e0:bH x.name with
 | false=>
  simp only [aA,Tryz.f167,KP,Ax.loadAt,↓reduceIte,reduceEqDiff,reduceLT,reduceAdd,reduceCtorEq,h.dA,h.bK,o1,o2,o3,o4,kn,e0]
  exact rfl
 | true=>
 by_cases h0:x.outs = []
 ·have q0:decide ((x.outs.length:Int) = 0) = true:=decide_eq_true (by rw [h0]; rfl)
  simp only [aA,Tryz.f167,KP,Ax.loadAt,↓reduceIte,reduceEqDiff,reduceLT,reduceAdd,reduceCtorEq,h.dA,h.bA,h.bK,o1,o2,o3,o4,kn,e0,lb,q0]
  rw [h0]
  exact rfl
 have q0:decide ((x.outs.length:Int) = 0) = false:=decide_eq_false (by have:=List.length_pos_iff.2 h0; omega)
 rw [show decide (x.outs ≠ []) = true from decide_eq_true h0]
 have hf:Ax.fill (fun j=>some (j * 1,1)) (gU 3 [V.aD]) [(0,a),(1,b),(2,c)] = some [a,b,c]:=by
  rcases ia with ⟨rfl,-⟩ | ⟨_,_,_,rfl,-⟩ <;> rcases ib with ⟨rfl,-⟩ | ⟨_,_,_,rfl,-⟩ <;> rcases ic with ⟨rfl,-⟩ | ⟨_,_,_,rfl,-⟩ <;> rfl
 have lz:∀ Z,lenOf E Z 30 (.sl 1 0 3 none) = some 3:=fun Z=>by unfold lenOf; rw [h.Me]
 have i0:indexAddr E 30 (.sl 1 0 3 none) (.int .i64 0) = some (.ref 1 0):=by unfold Ax.indexAddr; simp only [h.Me,h.bA]; rfl
 have i1:indexAddr E 30 (.sl 1 0 3 none) (.int .i64 1) = some (.ref 1 1):=by unfold Ax.indexAddr; simp only [h.Me,h.bA]; rfl
 have i2:indexAddr E 30 (.sl 1 0 3 none) (.int .i64 2) = some (.ref 1 2):=by unfold Ax.indexAddr; simp only [h.Me,h.bA]; rfl
 have d0:decide ((0:Int) < ((3:Nat):Int)) = true:=rfl
 have d1:decide ((1:Int) < ((3:Nat):Int)) = true:=rfl
 have d2:decide ((2:Int) < ((3:Nat):Int)) = true:=rfl
 have d3:decide ((3:Int) < ((3:Nat):Int)) = false:=rfl
 have w1:wr .i64 1 = 1:=rfl
 have w2:wr .i64 2 = 2:=rfl
 have w3:wr .i64 3 = 3:=rfl
 simp only [aA,Tryz.f167,KP,Ax.loadAt,↓reduceIte,reduceEqDiff,reduceLT,reduceLeDiff,reduceAdd,reduceMul,reduceCtorEq,h.dA,h.bA,h.Me,h.bK,o1,o2,o3,o4,kn,e0,lb,q0,hf,lz]
 rw [aF]
 cases e1:x.ins.all bH with
 | false=>
  simp only [KP,Ax.loadAt,↓reduceIte,reduceEqDiff,reduceLT,h.bA,k1,e1,i0,d0]
  exact rfl
 | true=>
 simp only [KP,Ax.loadAt,↓reduceIte,reduceEqDiff,reduceLT,Int.reduceAdd,h.bA,k1,e1,w1,i0,d0]
 rw [aF]
 cases e2:x.outs.all bH with
 | false=>
  simp only [KP,Ax.loadAt,↓reduceIte,reduceEqDiff,reduceLT,h.bA,k2,e2,i1,d1]
  exact rfl
 | true=>
 simp only [KP,Ax.loadAt,↓reduceIte,reduceEqDiff,reduceLT,Int.reduceAdd,h.bA,k2,e2,w2,i1,d1]
 rw [aF]
 cases e3:x.after.all bH with
 | false=>
  simp only [KP,Ax.loadAt,↓reduceIte,reduceEqDiff,reduceLT,h.bA,k3,e3,i2,d2]
  exact rfl
 | true=>
 simp only [KP,Ax.loadAt,↓reduceIte,reduceEqDiff,reduceLT,Int.reduceAdd,h.bA,k3,e3,w3,i2,d2]
 rw [aF]
 have e4:x.steps.all KB = !(x.steps.any fun s=>!KB s):=by rw [<- List.not_all_eq_any_not,Bool.not_not]
 rw [e4]
 simp only [KP,Ax.loadAt,↓reduceIte,reduceEqDiff,reduceLT,reduceCtorEq,h.fF,h.bK,k4,d3]
 exact rfl
theorem Qf (h:bM E) {v:V} {x:aG} (hv:Hl v x) (hs:Small x):KC E 167 [v] Z (.bool (j_ x)) Z:=dM fun _=>Rb h hv hs
end
end
section
section
variable {E:Env} {Z:Sg} {K:V -> Sg -> Prop}
theorem Ou (h:bM E) {a:V} {l:List aU} (ha:LS aK 9 Z a l) (hsm:l.length <= 4294967296):aB E 202 [a] Z K = K (.bool (kC l)) Z:=by
 refine aB.of ?_
 obtain ⟨a',ea,ia⟩:=jJ h ha
 rw [aH h.WR h.Uo h.XH h.VW (args':=[a']) (by simp only [aX,ea]),aZ (by kernel_rfl)]
 have la:=bN h ia
 simp only [aA,Tryz.f202,KP,↓reduceIte,reduceLT,reduceCtorEq,la]
 refine aV (fun i F Y=>Y = [] /\ F.get 0 = a' /\ F.get 5 = a' /\ F.get 6 = .int .i64 (l.length:Int) /\ F.get 7 = .int .i64 (i:Int) /\ ∀ (j:Nat) (y:aU),j < i -> l[j]? = some y -> y ∉ l.take j) l.length ?_ ?_ l.length 0 _ _ (by omega) ⟨rfl,(gR (by simp +decide only [GS,and_self]) (fun j y hj=>by omega))⟩
 ·rintro i F Y hi ⟨rfl,g0,g5,g6,g7,hp⟩ next
  obtain ⟨x,hx⟩:∃ x,l[i]? = some x:=⟨_,List.getElem?_eq_getElem hi⟩
  obtain ⟨g,e1⟩:=gC h ia hx
  obtain ⟨w,hw,iw⟩:=vI h ia (b:=i) (by omega)
  have hlt:=eD hi
  have hadd:=bZ i (by omega)
  have kc:=fun (Y:Sg)=>B_ (Z:=Y) h (s:=x) (iw.ls Y 9) (by rw [length_take]; omega)
  rw [aF]
  by_cases hm:x ∈ l.take i
  ·have hs:=decide_eq_true hm
   simp only [KP,Ax.loadAt,↓reduceIte,reduceEqDiff,reduceLT,reduceCtorEq,h.dA,g0,g5,g6,g7,hlt,e1,hw,kc,hs]
   rw [Bk hx hm]
   exact rfl
  ·have hs:=decide_eq_false hm
   simp only [KP,Ax.loadAt,↓reduceIte,reduceEqDiff,reduceLT,reduceCtorEq,h.dA,g0,g5,g6,g7,hlt,e1,hw,kc,hs,hadd]
   refine next _ _ ⟨rfl,(gR (by simp +decide only [GS,g0,g5,g6,and_self]) (fun j y hj hy=>?_))⟩
   rcases Nat.lt_or_ge j i with g | g
   ·exact hp j y g hy
   ·obtain rfl:j = i:=by omega
    rw [hx] at hy; cases hy; exact hm
 ·rintro F Y ⟨rfl,g0,g5,g6,g7,hp⟩
  have hlt:=eE (Nat.lt_irrefl l.length)
  rw [aF]
  simp only [KP,↓reduceIte,reduceLT,g6,g7,hlt]
  rw [yI fun j y hy=>hp j y (List.getElem?_eq_some_iff.1 hy).1 hy]
  exact rfl
theorem B9 (h:bM E) {a:V} {l:List aU} (ha:LS aK 9 Z a l) (hsm:l.length <= 4294967296):KC E 202 [a] Z (.bool (kC l)) Z:=dM fun _=>Ou h ha hsm
theorem Cs (h:bM E):nC E 28 true .aD .aD = some true:=by unfold nC; rw [h.bA]
theorem Cr (h:bM E) {g:Bool} {rs:List (List V)} {f:Bool}:nC E 28 true (.bR g rs f) .aD = some false:=by unfold nC; rw [h.bA]
theorem rZ (h:bM E) {a:V} {l:List aU} (ia:IS aK a l) (hl:l.length <= 1000):aB E 97 [a] Z fun v σ'=>bF aK 9 σ' v l /\ Kp Z σ' /\ ∀ b,aQ v = some b -> Z.length <= b:=by
 rw [c_ h.hs97 h.sp97 h.fn97 h.md97,aZ (by kernel_rfl)]
 rcases ia with ⟨rfl,rfl⟩ | ⟨g,rs,full,rfl,ha⟩
 ·simp only [aA,Tryz.f97,KP,↓reduceIte,reduceLT,reduceCtorEq,Cs h]
  exact ⟨.inl ⟨rfl,rfl⟩,fun _ _ h=>h,fun b hb=>by cases hb⟩
 ·obtain ⟨rs',e,ha'⟩:=qN (L:=aK) (x:=.bR g rs full) (l:=l) (.inr ⟨g,rs,full,rfl,ha⟩) (Z ++ [O.cells 9 [] true])
  obtain ⟨w',τ',h1,h2,h3,h4,h5⟩:=jQ (ats:=#[28,28]) (Z:=Z ++ [O.cells 9 [] true]) (w:=.sl Z.length 0 0 none) (l:=[]) (L:=aK) h.bA rfl h.dA rfl (by decide) (jB h) rfl (.inr ⟨Z.length,[],true,rfl,aP,.nil⟩) e ha' (eT (b:=1000) (by decide) (by simp only [length_nil]; omega))
  rw [List.nil_append] at h2
  simp only [aA,Tryz.f97,KP,↓reduceIte,reduceEqDiff,reduceLT,reduceLeDiff,reduceCtorEq,h.dA,h.bA,Cr h,h1,Ax.fill,gU,Nat.zero_mul]
  refine ⟨h2,fun c o hc=>h3 _ _ (aM hc) fun e=>?_,fun b hb=>?_⟩
  ·cases e
   exact absurd (List.getElem?_eq_some_iff.1 hc).1 (Nat.lt_irrefl _)
  ·rcases h5 b hb with g | g
   ·cases g; exact Nat.le_refl _
   ·simp only [length_append,length_cons,length_nil] at g; omega
theorem FI {Z:Sg} {ty:Nat -> Option Ty} {g:Bool} {b n t m:Nat} {cs:List V} {ex:Bool} {i:Ty} (hb:Z[b]? = some (.cells t cs ex)) (hty:ty t = some i) (hlen:n * i.size <= cs.length)
  (hi:∀ c ∈ cs.take (n * i.size),Ax.bD c = true /\ cK g c = true):∃ full,bT Z ty g (m + 2) (.sl b 0 n none) = some (.bR g (rows i.size n (cs.take (n * i.size))) full):=by
 have hm:aX (fun v=>match bT Z ty g (m + 1) v with
   | some v=>if cK g v then some v else Ax.no "snap: borrowed"
   | none=>none) ((cs.drop 0).take (n * i.size)) = some (cs.take (n * i.size)):=by
  rw [List.drop_zero]
  refine iR fun x hx=>?_
  rw [jK (hi x hx).1]
  simp only [(hi x hx).2,if_true]
 refine ⟨ex && decide (0 < i.size) && (0 + n * i.size == cs.length),?_⟩
 rw [bT]
 simp only [hb,hty]
 rw [if_pos (by omega)]
 exact congrArg (fun o=>match o with
  | some l=>some (V.bR g (rows i.size n l) (ex && decide (0 < i.size) && (0 + n * i.size == cs.length)))
  | none=>none) hm
theorem KF (h:bM E) {Z:Sg} {w:V} {l:List aU} {m:Nat} (ow:bF aK 9 Z w l):∃ w',bT Z E.ty true (m + 2) w = some w' /\ IS aK w' l:=by
 rcases ow with ⟨rfl,rfl⟩ | ⟨b,rs,ex,rfl,hb,ha⟩
 ·exact ⟨.aD,rfl,.inl ⟨rfl,rfl⟩⟩
 ·have hfl:=Lay.flat ha
  have hfl:rs.flatten.length = l.length * 1:=hfl
  have htk:rs.flatten.take (l.length * 1) = rs.flatten:=take_of_length_le (by omega)
  obtain ⟨full,e⟩:=FI (g:=true) (n:=l.length) (m:=m) hb h.dA (show l.length * 1 <= _ by omega) (fun c hcm=>by
   rw [show rs.flatten.take (l.length * 1) = rs.flatten from htk] at hcm
   obtain ⟨r,hr,hcr⟩:=List.mem_flatten.1 hcm
   obtain ⟨x,-,hp⟩:=ha.mem hr
   have:=aK.im r x hp c hcr
   exact ⟨this,b_ this⟩)
  refine ⟨_,e,.inr ⟨true,rs,full,?_,ha⟩⟩
  show V.bR true (rows 1 l.length (rs.flatten.take (l.length * 1))) full = _
  rw [htk,<- ha.len]
  exact congrArg (fun z=>V.bR true z full) (lE (sz:=1) rs (Lay.lens ha))
theorem vH {Z:Sg} {f k t:Nat} {cs cs':List V} {ex:Bool} (hb:Z[k]? = some (.cells t cs ex)) (hm:aX (fun v=>match bT Z E.ty true 11 v with
   | some v=>if cK true v then some v else Ax.no "snap: borrowed"
   | none=>none) cs = some cs'):aT Z E.ty true (.fn f [] [.ref k 0]) = some (.fn f [] [.dN true cs']):=by
 have e:bT Z E.ty true 12 (.ref k 0) = some (.dN true cs'):=by
  rw [bT]
  simp only [hb,List.drop_zero]
  exact congrArg (fun o=>match o with
   | some l=>some (V.dN true l)
   | none=>none) hm
 have e1:aT.one Z E.ty true (.ref k 0) = some (.dN true cs'):=by
  unfold aT.one
  rw [show dV = 12 from rfl,e]
  rfl
 simp only [aT,aX,e1]
theorem Bx (h:bM E) {Z:Sg} {w:V} {l:List aU} {f k t:Nat} {ex:Bool} (hb:Z[k]? = some (.cells t [w] ex)) (ow:bF aK 9 Z w l):∃ w',aT Z E.ty true (.fn f [] [.ref k 0]) = some (.fn f [] [.dN true [w']]) /\ IS aK w' l:=by
 obtain ⟨w',e,iw⟩:=KF (m:=9) h ow
 refine ⟨w',vH hb ?_,iw⟩
 simp only [aX,e,b_ iw.bD,if_true]
theorem HQ {Z:Sg} {f k t:Nat} {cs:List V} {ex:Bool} (hb:Z[k]? = some (.cells t cs ex)) (hc:∀ c ∈ cs,Ax.bD c = true):aT Z E.ty true (.fn f [] [.ref k 0]) = some (.fn f [] [.dN true cs]):=
 vH hb (iR fun x hx=>by rw [show 11 = 10 + 1 from rfl,jK (hc x hx)]; simp only [b_ (hc x hx),if_true])
theorem G5 (h:bM E) {w:V} {l:List aU} {y:aU} {g:Bool} (iw:IS aK w l) (hsm:l.length <= 4294967296):aB E 203 [.str y,.dN g [w]] [] K = K (.bool (!decide (y ∈ l))) []:=by
 refine aB.of ?_
 have hi:Ax.bD (.dN g [w]) = true:=rfl
 have ew:=cO (Z:=[]) (ty:=E.ty) hi (b_ hi)
 rw [aH h.WQ h.Un h.XG h.VV (args':=[.str y,.dN g [w]]) (by simp only [aX,cZ,ew]),aZ (by kernel_rfl)]
 have kc:=fun (Y:Sg)=>B_ (Z:=Y) h (s:=y) (iw.ls Y 9) hsm
 simp only [aA,Tryz.f203,KP,Ax.loadAt,↓reduceIte,reduceEqDiff,reduceLT,reduceAdd,reduceCtorEq,h.bA,kc]
 exact rfl
theorem Oz (h:bM E) {a b c d:V} {l:List aU} {n y:aU} {g:Bool} (ia:IS aK a l) (hb:Ax.bD b = true) (hc:Ax.bD c = true) (hd:Ax.bD d = true) (hsm:l.length <= 4294967296):aB E 204 [.str y,.dN g [.str n,a,b,c,d]] [] K = K (.bool (decide (y ∈ l))) []:=by
 refine aB.of ?_
 have hi:Ax.bD (.dN g [.str n,a,b,c,d]) = true:=rfl
 have ew:=cO (Z:=[]) (ty:=E.ty) hi (b_ hi)
 rw [aH h.WO h.Um h.XF h.VU (args':=[.str y,.dN g [.str n,a,b,c,d]]) (by simp only [aX,cZ,ew]),aZ (by kernel_rfl)]
 have kc:=fun (Y:Sg)=>B_ (Z:=Y) h (s:=y) (ia.ls Y 9) hsm
 simp only [aA,Tryz.f204,KP,Ax.loadAt,↓reduceIte,reduceEqDiff,reduceLT,reduceAdd,reduceCtorEq,h.bA,h.bK,kc]
 exact rfl
end
end
section
section
variable {E:Env} {Z:Sg} {K:V -> Sg -> Prop}
theorem bF.set {Z:Sg} {w:V} {l:List aU} {k:Nat} {y:O} (ow:bF aK 9 Z w l) (hk:aQ w ≠ some k):bF aK 9 (Z.set k y) w l:=ow.keep fun c o hc ho=>by
 rw [getElem?_set_ne (fun e=>hk (by rw [e]; exact hc))]
 exact ho
theorem Nr (h:bM E) {x:aG} {a b c d:V} (ia:IS aK a x.ins) (ib:IS aK b x.outs) (id:IS eW d x.steps) (hs:Small x) {kb:Nat} {Y:Sg} {w:V} (b0:Y[0]? = some (O.cells 37 [.str x.name,a,b,c,d] true)) (k0:Y[kb]? = some (.cells 28 [w] true)) (ow:bF aK 9 Y w x.ins) (F:FT) (g1:F.get 1 = .ref 0 0) (g3:F.get 3 = .ref kb 0) (g4:F.get 4 = .fn 203 [] [.ref kb 0])
  (hk:∀ σ',K (.bool (gW x.ins x.steps && x.outs.all fun o=>decide (o ∈ x.ins ++ x.steps.map Step.out))) σ'):R E (cutAt [1,1,1,1,1] (aA Tryz.f168).code) [] ⟨63,F⟩ Y (mG E (aA Tryz.f168).results K):=by
 have l1:=hs.ins
 have l2:=hs.outs
 have l4:=hs.steps
 have ld:=kY h id
 simp only [aA,Tryz.f168,KP,Ax.loadAt,↓reduceIte,reduceLT,reduceCtorEq,h.fF,h.bK,cutAt,g1,b0,ld]
 refine aV (fun i F Y=>F.get 1 = .ref 0 0 /\ F.get 3 = .ref kb 0 /\ F.get 4 = .fn 203 [] [.ref kb 0] /\ F.get 36 = d /\ F.get 37 = .int .i64 (x.steps.length:Int) /\ F.get 38 = .int .i64 (i:Int) /\ Y[0]? = some (O.cells 37 [.str x.name,a,b,c,d] true) /\ ∃ w,Y[kb]? = some (.cells 28 [w] true) /\ bF aK 9 Y w (x.ins ++ (x.steps.take i).map Step.out) /\ gW x.ins x.steps = gW (x.ins ++ (x.steps.take i).map Step.out) (x.steps.drop i)) x.steps.length ?_ ?_ x.steps.length 0 _ _ (by omega) (CE (by simp +decide only [GS,g1,g3,g4,and_self]) ⟨b0,w,k0,by simpa using ow,by simp⟩)
 ·rintro i F Y hi ⟨g1,g3,g4,g36,g37,g38,b0,w,k0,ow,hst⟩ next
  obtain ⟨s,hsi⟩:∃ y,x.steps[i]? = some y:=⟨_,List.getElem?_eq_getElem hi⟩
  obtain ⟨g,p1,p2,e1,i1,i2⟩:=uF h id hsi
  have a8:=hs.args s (mem_of_getElem? hsi)
  have o1:=aJ i1.bD
  have o2:=aJ i2.bD
  have hlt:=eD hi
  have hadd:=bZ i (by omega)
  have hdrop:x.steps.drop i = s :: x.steps.drop (i + 1):=by
   obtain ⟨hj,rfl⟩:=List.getElem?_eq_some_iff.1 hsi
   exact List.drop_eq_getElem_cons hj
  have htake:x.ins ++ (x.steps.take (i + 1)).map Step.out = x.ins ++ (x.steps.take i).map Step.out ++ [s.out]:=by
   rw [take_add_one,hsi]; simp
  have hkl:(x.ins ++ (x.steps.take i).map Step.out).length <= 100:=by
   rw [length_append,length_map,length_take]; omega
  rw [hdrop,gW] at hst
  rw [htake] at next
  generalize x.ins ++ (x.steps.take i).map Step.out = kn at *
  rw [hst] at hk
  have b1:=aM (x:=O.cells 75 [.str s.out,.int .i64 s.op,p1,p2,.int .i64 s.n] true) b0
  have k1:=aM (x:=O.cells 75 [.str s.out,.int .i64 s.op,p1,p2,.int .i64 s.n] true) k0
  have s1:(Y ++ [O.cells 75 [.str s.out,.int .i64 s.op,p1,p2,.int .i64 s.n] true])[Y.length]? = some (O.cells 75 [.str s.out,.int .i64 s.op,p1,p2,.int .i64 s.n] true):=aP
  have ow1:=ow.app [O.cells 75 [.str s.out,.int .i64 s.op,p1,p2,.int .i64 s.n] true]
  rw [aF]
  simp only [KP,Ax.loadAt,Ax.storeAt,↓reduceIte,reduceEqDiff,reduceLT,reduceAdd,h.bA,h.cQ,g3,g36,g37,g38,hlt,e1,o1,o2,aP,cL]
  generalize Y ++ [O.cells 75 [.str s.out,.int .i64 s.op,p1,p2,.int .i64 s.n] true] = τ1 at *
  generalize Y.length = y at *
  have kc:=B_ (Z:=τ1) h (s:=s.out) ow1.ls (by omega)
  obtain ⟨w',es,iw⟩:=Bx (f:=203) h k1 ow1
  have kf:=dM (fun K=>qQ (Z:=τ1) (K:=K) (k:=203) (caps:=[.dN true [w']]) (P:=fun y=>!decide (y ∈ kn)) h (i1.ls τ1 9) (by omega) (fun c hc=>by cases hc with | head=>rfl | tail _ hc=>cases hc) (fun y v hy hv=>by
   subst hv
   show aB E 203 [.str y,.dN true [w']] [] _
   rw [G5 h iw (by omega)]; exact ⟨rfl,rfl⟩) es)
  by_cases m1:s.out ∈ kn
  ·have q1:=decide_eq_true m1
   rw [q1] at hk
   simp only [KP,Ax.loadAt,↓reduceIte,reduceEqDiff,reduceLT,reduceCtorEq,h.dA,h.cQ,k1,s1,kc,q1]
   exact hk _
  have q1:=decide_eq_false m1
  cases m2:s.args.any fun y=>!decide (y ∈ kn) with
  | true=>
   rw [show s.args.all (fun a=>decide (a ∈ kn)) = false from by rw [<- Bool.not_eq_true',List.not_all_eq_any_not,m2],Bool.and_false,Bool.false_and,Bool.false_and] at hk
   simp only [KP,Ax.loadAt,↓reduceIte,reduceEqDiff,reduceLT,reduceCtorEq,h.dA,h.bA,h.cQ,g4,k1,s1,kc,kf,q1,m2]
   exact hk _
  | false=>
  rw [q1,show s.args.all (fun a=>decide (a ∈ kn)) = true from by rw [<- Bool.not_eq_false',List.not_all_eq_any_not,m2],Bool.not_false,Bool.true_and,Bool.true_and] at hst
  have b2:=aM (x:=O.cells 9 [.str s.out] true) b1
  have k2:=aM (x:=O.cells 9 [.str s.out] true) k1
  obtain ⟨w2,τ2,ha2,ow2,Ry,-,fr2⟩:=jQ (ats:=#[28,28]) (m:=[s.out]) (new:=[[.str s.out]]) h.bA rfl h.dA rfl (by decide) (jB h) rfl (ow1.app [.cells 9 [.str s.out] true]) (mD rfl) (.one rfl) (eT (b:=1000) (by decide) (by simp only [length_cons,length_nil]; omega))
  have nk:=jY (w:=w) k2 (by decide) (ow1.app [.cells 9 [.str s.out] true])
  have n0:=jY (w:=w) b2 (by decide) (ow1.app [.cells 9 [.str s.out] true])
  have k3:=Ry _ _ k2 nk
  have b3:=Ry _ _ b2 n0
  have nk2:aQ w2 ≠ some kb:=jY k3 (by decide) ow2
  obtain ⟨c1,c2⟩:=qA ow2
  have hkb:kb ≠ 0:=fun e=>by
   rw [e,b0] at k0
   cases k0
  have hlen:=(List.getElem?_eq_some_iff.1 k3).1
  simp only [KP,Ax.loadAt,Ax.storeAt,↓reduceIte,reduceEqDiff,reduceLT,reduceLeDiff,reduceMul,reduceCtorEq,h.dA,h.bA,h.cQ,g3,g4,g38,k1,s1,kc,kf,q1,m2,kJ,ha2,k3,c1,c2,hadd]
  refine next _ _ ⟨?_,?_,?_,?_,?_,?_,?_,w2,?_,?_,?_⟩
  ·exact (by simp +decide only [GS,g1])
  ·exact (by simp +decide only [GS,g3])
  ·exact (by simp +decide only [GS,g4])
  ·exact (by simp +decide only [GS,g36])
  ·exact (by simp +decide only [GS,g37])
  ·exact (by simp +decide only [GS])
  ·rw [getElem?_set_ne hkb]; exact b3
  ·rw [getElem?_set_self hlen]
  ·exact bF.set ow2 nk2
  ·exact hst
 ·rintro F Y ⟨g1,g3,g4,g36,g37,g38,b0,w,k0,ow,hst⟩
  rw [take_of_length_le (Nat.le_refl _)] at ow hst
  rw [show x.steps.drop x.steps.length = [] from List.drop_length,gW] at hst
  have hkl:(x.ins ++ x.steps.map Step.out).length <= 100:=by
   rw [length_append,length_map]; omega
  generalize x.ins ++ x.steps.map Step.out = kn at *
  obtain ⟨w',es,iw⟩:=Bx (f:=203) h k0 ow
  have kf:=dM (fun K=>qQ (Z:=Y) (K:=K) (k:=203) (caps:=[.dN true [w']]) (P:=fun y=>!decide (y ∈ kn)) h (ib.ls Y 9) (by omega) (fun c hc=>by cases hc with | head=>rfl | tail _ hc=>cases hc) (fun y v hy hv=>by
   subst hv
   show aB E 203 [.str y,.dN true [w']] [] _
   rw [G5 h iw (by omega)]; exact ⟨rfl,rfl⟩) es)
  have hlt:=eE (Nat.lt_irrefl x.steps.length)
  rw [hst,Bool.true_and] at hk
  have e:(x.outs.all fun o=>decide (o ∈ kn)) = !(x.outs.any fun y=>!decide (y ∈ kn)):=by rw [<- List.not_all_eq_any_not,Bool.not_not]
  rw [e] at hk
  rw [aF]
  simp only [KP,Ax.loadAt,↓reduceIte,reduceEqDiff,reduceLT,reduceCtorEq,h.bA,h.bK,g1,g4,g37,g38,hlt,b0,kf]
  exact hk _
theorem Q_ (h:bM E) {v:V} {x:aG} (hv:Hl v x) (hs:Small x):aB E 168 [v] Z K = K (.bool (fA x)) Z:=by
 refine aB.of ?_
 have ev:=hv.snap (E:=E) Z
 obtain ⟨a,b,c,d,rfl,ia,ib,ic,id⟩:=hv
 have o1:=aJ ia.bD
 have o2:=aJ ib.bD
 have o3:=aJ ic.bD
 have o4:=aJ id.bD
 have l1:=hs.ins
 have l2:=hs.outs
 have l3:=hs.after
 rw [aH h.W5 h.Uz h.XQ h.V7 (args':=[.agg [.str x.name,a,b,c,d]]) (by simp only [aX,ev]),aZ (by kernel_rfl)]
 have k1:=fun (Y:Sg)=>B9 (Z:=Y) h (ia.ls Y 9) (by omega)
 have k2:=fun (Y:Sg)=>B9 (Z:=Y) h (ib.ls Y 9) (by omega)
 have k3:=fun (Y:Sg)=>B9 (Z:=Y) h (ic.ls Y 9) (by omega)
 have kc:=fun (Y:Sg)=>B_ (Z:=Y) h (s:=x.name) (ic.ls Y 9) (by omega)
 have rest:=fun (hn:(gW x.ins x.steps && x.outs.all fun o=>decide (o ∈ x.ins ++ x.steps.map Step.out)) = fA x) kb Y w F b0 k0 ow g1 g3 g4=>Nr (K:=fun v σ1=>match cP σ1 E.ty false v with
   | some v=>v = .bool (fA x)
   | none=>False) (c:=c) h ia ib id hs (kb:=kb) (Y:=Y) (w:=w) b0 k0 ow F g1 g3 g4 fun _=>by rw [hn]; exact rfl
 generalize hC:cutAt [1,1,1,1,1] (aA Tryz.f168).code = C at rest
 cases e0:kC x.ins with
 | true=>
  simp only [aA,Tryz.f168,KP,Ax.loadAt,↓reduceIte,reduceEqDiff,reduceLT,reduceAdd,reduceCtorEq,h.bA,h.bK,o1,o2,o3,o4,k1,e0]
  show V.bool false = V.bool (fA x)
  unfold fA
  simp [e0]
 | false=>
 cases e1:kC x.outs with
 | true=>
  simp only [aA,Tryz.f168,KP,Ax.loadAt,↓reduceIte,reduceEqDiff,reduceLT,reduceAdd,reduceCtorEq,h.bA,h.bK,o1,o2,o3,o4,k1,k2,e0,e1]
  show V.bool false = V.bool (fA x)
  unfold fA
  simp [e0,e1]
 | false=>
 cases e2:kC x.after with
 | true=>
  simp only [aA,Tryz.f168,KP,Ax.loadAt,↓reduceIte,reduceEqDiff,reduceLT,reduceAdd,reduceCtorEq,h.bA,h.bK,o1,o2,o3,o4,k1,k2,k3,e0,e1,e2]
  show V.bool false = V.bool (fA x)
  unfold fA
  simp [e0,e1,e2]
 | false=>
 cases e3:decide (x.name ∈ x.after) with
 | true=>
  simp only [aA,Tryz.f168,KP,Ax.loadAt,↓reduceIte,reduceEqDiff,reduceLT,reduceAdd,reduceCtorEq,h.dA,h.bA,h.bK,o1,o2,o3,o4,k1,k2,k3,kc,e0,e1,e2,e3]
  show V.bool false = V.bool (fA x)
  unfold fA
  rw [e0,e1,e2,e3]
  rfl
 | false=>
 rw [show (aA Tryz.f168).code = .seq (cutAt [0] (aA Tryz.f168).code) (.seq (cutAt [1,0] (aA Tryz.f168).code) (.seq (cutAt [1,1,0] (aA Tryz.f168).code) (.seq (cutAt [1,1,1,0] (aA Tryz.f168).code) (.seq (cutAt [1,1,1,1,0] (aA Tryz.f168).code) C)))) from by rw [<- hC]; rfl]
 simp only [aA,Tryz.f168,KP,Ax.loadAt,↓reduceIte,reduceEqDiff,reduceLT,reduceAdd,reduceCtorEq,h.dA,h.bA,h.bK,cutAt,o1,o2,o3,o4,k1,k2,k3,kc,e0,e1,e2,e3]
 refine aN (rZ h ia (by omega)) ?_
 rintro w Y ⟨ow,kp,-⟩
 have b0:Y[0]? = some (O.cells 37 [.str x.name,a,b,c,d] true):=kp 0 _ rfl
 obtain ⟨c1,c2⟩:=qA ow
 have b1:=aM (x:=O.cells 28 [w] true) b0
 have kk:(Y ++ [O.cells 28 [w] true])[Y.length]? = some (O.cells 28 [w] true):=aP
 have es:=HQ (E:=E) (f:=204) b1 (fun y hy=>by
  simp only [mem_cons,List.not_mem_nil,or_false] at hy
  rcases hy with rfl | rfl | rfl | rfl | rfl
  ·rfl
  ·exact ia.bD
  ·exact ib.bD
  ·exact ic.bD
  ·exact id.bD)
 have kf:=dM (fun K=>qQ (Z:=Y ++ [O.cells 28 [w] true]) (K:=K) (k:=204) (caps:=[.dN true [.str x.name,a,b,c,d]]) (P:=fun y=>decide (y ∈ x.ins)) h (ib.ls _ 9) (by omega) (fun c hc=>by cases hc with | head=>rfl | tail _ hc=>cases hc) (fun y v hy hv=>by
  subst hv
  show aB E 204 [.str y,.dN true [.str x.name,a,b,c,d]] [] _
  rw [Oz h ia ib.bD ic.bD id.bD (by omega)]; exact ⟨rfl,rfl⟩) es)
 have eo:(x.outs.all fun o=>!decide (o ∈ x.ins)) = !(x.outs.any fun y=>decide (y ∈ x.ins)):=by rw [List.not_any_eq_all_not]
 cases e4:x.outs.any fun y=>decide (y ∈ x.ins) with
 | true=>
  simp only [KP,Ax.loadAt,Ax.storeAt,↓reduceIte,reduceEqDiff,reduceLT,reduceCtorEq,h.bA,h.bK,b1,kf,e4,c1,c2,aP,cL]
  show V.bool false = V.bool (fA x)
  unfold fA
  rw [eo,e0,e1,e2,e3,e4]
  rfl
 | false=>
 simp only [KP,Ax.loadAt,Ax.storeAt,↓reduceIte,reduceEqDiff,reduceLT,reduceCtorEq,h.bA,h.bK,b1,kf,e4,c1,c2,aP,cL]
 refine rest ?_ Y.length _ w _ b1 kk (ow.app _) ?_ ?_ ?_
 ·unfold fA
  rw [eo,e0,e1,e2,e3,e4]
  simp
 ·exact (by simp +decide only [GS])
 ·exact (by simp +decide only [GS])
 ·exact (by simp +decide only [GS])
theorem Qb (h:bM E) {v:V} {x:aG} (hv:Hl v x) (hs:Small x):KC E 168 [v] Z (.bool (fA x)) Z:=dM fun _=>Q_ h hv hs
end
end
section
section
variable {E:Env} {Z:Sg} {K:V -> Sg -> Prop}
theorem Re (h:bM E) {v:V} {x:aG} (hv:Hl v x) (hs:Small x):aB E 124 [v] Z K = K (.int .i64 (bB x)) Z:=by
 refine aB.of ?_
 have ev:=hv.snap (E:=E) Z
 obtain ⟨a,b,c,d,rfl,ia,ib,ic,id⟩:=hv
 have o1:=aJ ia.bD
 have o2:=aJ ib.bD
 have o3:=aJ ic.bD
 have o4:=aJ id.bD
 have la:=bN h ia
 have lb:=bN h ib
 have lc:=bN h ic
 have ld:=kY h id
 rw [aH h.Xe h.UJ h.XZ h.Wf (args':=[.agg [.str x.name,a,b,c,d]]) (by simp only [aX,ev]),aZ (by kernel_rfl)]
 have k1:=fun (Y:Sg)=>Qf (Z:=Y) h (v:=.agg [.str x.name,a,b,c,d]) ⟨a,b,c,d,rfl,ia,ib,ic,id⟩ hs
 have k2:=fun (Y:Sg)=>Qb (Z:=Y) h (v:=.agg [.str x.name,a,b,c,d]) ⟨a,b,c,d,rfl,ia,ib,ic,id⟩ hs
 cases e1:j_ x with
 | false=>
  simp only [aA,Tryz.f124,KP,Ax.loadAt,↓reduceIte,reduceEqDiff,reduceLT,reduceAdd,h.bK,o1,o2,o3,o4,k1,e1]
  show V.int .i64 1 = V.int .i64 (bB x)
  rw [show bB x = 1 from by unfold bB; rw [if_pos e1]]
 | true=>
 by_cases p0:8 < x.ins.length
 ·have q0:decide ((8:Int) < (x.ins.length:Int)) = true:=decide_eq_true (by omega)
  simp only [aA,Tryz.f124,KP,Ax.loadAt,↓reduceIte,reduceEqDiff,reduceLT,reduceAdd,reduceCtorEq,h.bA,h.bK,o1,o2,o3,o4,la,k1,e1,q0]
  show V.int .i64 4 = V.int .i64 (bB x)
  rw [show bB x = 4 from by unfold bB; rw [if_neg (by rw [e1]; simp)]; rw [if_pos (by unfold long; rw [decide_eq_true p0]; simp)]]
 have q0:decide ((8:Int) < (x.ins.length:Int)) = false:=decide_eq_false (by omega)
 by_cases p1:4 < x.outs.length
 ·have q1:decide ((4:Int) < (x.outs.length:Int)) = true:=decide_eq_true (by omega)
  simp only [aA,Tryz.f124,KP,Ax.loadAt,↓reduceIte,reduceEqDiff,reduceLT,reduceAdd,reduceCtorEq,h.bA,h.bK,o1,o2,o3,o4,la,lb,k1,e1,q0,q1]
  show V.int .i64 4 = V.int .i64 (bB x)
  rw [show bB x = 4 from by unfold bB; rw [if_neg (by rw [e1]; simp)]; rw [if_pos (by unfold long; rw [decide_eq_true p1]; simp)]]
 have q1:decide ((4:Int) < (x.outs.length:Int)) = false:=decide_eq_false (by omega)
 by_cases p2:8 < x.after.length
 ·have q2:decide ((8:Int) < (x.after.length:Int)) = true:=decide_eq_true (by omega)
  simp only [aA,Tryz.f124,KP,Ax.loadAt,↓reduceIte,reduceEqDiff,reduceLT,reduceAdd,reduceCtorEq,h.bA,h.bK,o1,o2,o3,o4,la,lb,lc,k1,e1,q0,q1,q2]
  show V.int .i64 4 = V.int .i64 (bB x)
  rw [show bB x = 4 from by unfold bB; rw [if_neg (by rw [e1]; simp)]; rw [if_pos (by unfold long; rw [decide_eq_true p2]; simp)]]
 have q2:decide ((8:Int) < (x.after.length:Int)) = false:=decide_eq_false (by omega)
 by_cases p3:12 < x.steps.length
 ·have q3:decide ((12:Int) < (x.steps.length:Int)) = true:=decide_eq_true (by omega)
  simp only [aA,Tryz.f124,KP,Ax.loadAt,↓reduceIte,reduceEqDiff,reduceLT,reduceAdd,reduceCtorEq,h.bA,h.fF,h.bK,o1,o2,o3,o4,la,lb,lc,ld,k1,e1,q0,q1,q2,q3]
  show V.int .i64 4 = V.int .i64 (bB x)
  rw [show bB x = 4 from by unfold bB; rw [if_neg (by rw [e1]; simp)]; rw [if_pos (by unfold long; rw [decide_eq_true p3]; simp)]]
 have q3:decide ((12:Int) < (x.steps.length:Int)) = false:=decide_eq_false (by omega)
 cases e2:fA x with
 | false=>
  simp only [aA,Tryz.f124,KP,Ax.loadAt,↓reduceIte,reduceEqDiff,reduceLT,reduceAdd,reduceCtorEq,h.bA,h.fF,h.bK,o1,o2,o3,o4,la,lb,lc,ld,k1,k2,e1,q0,q1,q2,q3,e2]
  show V.int .i64 2 = V.int .i64 (bB x)
  rw [show bB x = 2 from by unfold bB; rw [if_neg (by rw [e1]; simp)]; rw [if_neg (by unfold long; rw [decide_eq_false p0,decide_eq_false p1,decide_eq_false p2,decide_eq_false p3]; simp)]; rw [if_pos e2]]
 | true=>
 simp only [aA,Tryz.f124,KP,Ax.loadAt,↓reduceIte,reduceEqDiff,reduceLT,reduceAdd,reduceCtorEq,h.bA,h.fF,h.bK,o1,o2,o3,o4,la,lb,lc,ld,k1,k2,e1,q0,q1,q2,q3,e2]
 show V.int .i64 0 = V.int .i64 (bB x)
 rw [show bB x = 0 from by unfold bB; rw [if_neg (by rw [e1]; simp)]; rw [if_neg (by unfold long; rw [decide_eq_false p0,decide_eq_false p1,decide_eq_false p2,decide_eq_false p3]; simp)]; rw [if_neg (by rw [e2]; simp)]]
theorem Qk (h:bM E) {v:V} {x:aG} (hv:Hl v x) (hs:Small x):KC E 124 [v] Z (.int .i64 (bB x)) Z:=dM fun _=>Re h hv hs
end
end
section
section
variable {E:Env} {Z:Sg} {K:V -> Sg -> Prop}
def SM (E:Env) (es:List (V × V)) (get:aU -> Option V):Prop:=(∀ e ∈ es,(∃ k,e.1 = .str k) /\ Ax.bD e.2 = true) /\ ∀ k,iN (eN E 9) (.str k) es = some (get k)
theorem bW (h:bM E) (a b:aU):eN E 9 (.str a) (.str b) = some (Ax.seq a b):=by unfold eN; rw [h.dA]
theorem HT:SM E [] fun _=>none:=⟨fun _ h=>(by cases h),fun _=>rfl⟩
theorem Ey (h:bM E) {v:V} (k:aU) (hv:Ax.bD v = true):∀ {es:List (V × V)} {get:aU -> Option V},SM E es get -> ∃ es',kI (eN E 9) (.str k) v es = some es' /\ SM E es' fun q=>if q = k then some v else get q
 | [],get,hs=>by
  refine ⟨[(.str k,v)],rfl,fun e he=>?_,fun q=>?_⟩
  ·rw [mem_singleton.1 he]
   exact ⟨⟨k,rfl⟩,hv⟩
  ·show _ = some (if q = k then some v else get q)
   have e0:none = get q:=Option.some.inj (hs.2 q)
   rw [iN,bW h]
   by_cases hq:q = k
   ·rw [g_ hq,if_pos hq]
   ·rw [fW hq,if_neg hq,<- e0]; rfl
 | (k0,v0) :: r,get,hs=>by
  obtain ⟨⟨s0,e0⟩,i0⟩:=hs.1 _ (mem_cons_self ..)
  dsimp only at e0 i0
  subst e0
  by_cases hk:k = s0
  ·refine ⟨(.str k,v) :: r,by rw [kI,bW h,g_ hk],fun e he=>?_,fun q=>?_⟩
   ·rcases mem_cons.1 he with rfl | he
    ·exact ⟨⟨k,rfl⟩,hv⟩
    ·exact hs.1 e (mem_cons_of_mem _ he)
   ·have:=hs.2 q
    show _ = some (if q = k then some v else get q)
    rw [iN,bW h] at this ⊢
    by_cases hq:q = k
    ·rw [g_ hq,if_pos hq]
    ·rw [fW (show q ≠ s0 by rw [<- hk]; exact hq)] at this
     rw [fW hq,if_neg hq]
     exact this
  ·have hs':SM E r fun q=>if q = s0 then (match iN (eN E 9) (.str q) r with | some y=>y | none=>none) else get q:=by
    refine ⟨fun e he=>hs.1 e (mem_cons_of_mem _ he),fun q=>?_⟩
    have:=hs.2 q
    rw [iN,bW h] at this
    show _ = some (if q = s0 then (match iN (eN E 9) (.str q) r with | some y=>y | none=>none) else get q)
    by_cases hq:q = s0
    ·rw [if_pos hq]
     have tot:∀ (l:List (V × V)),(∀ e ∈ l,∃ k,e.1 = V.str k) -> ∃ y,iN (eN E 9) (.str q) l = some y:=by
      intro l
      induction l with
      | nil=>intro _; exact ⟨none,rfl⟩
      | cons e l ih=>
       intro hl
       obtain ⟨k1,e1⟩:=hl _ (mem_cons_self ..)
       obtain ⟨a,b⟩:=e
       dsimp only at e1
       subst e1
       rw [iN,bW h]
       by_cases h1:q = k1
       ·rw [g_ h1]; exact ⟨_,rfl⟩
       ·rw [fW h1]; exact ih fun e he=>hl e (mem_cons_of_mem _ he)
     obtain ⟨y,hy⟩:=tot r fun e he=>(hs.1 e (mem_cons_of_mem _ he)).1
     rw [hy]
    ·rw [if_neg hq]
     rw [fW hq] at this
     exact this
   obtain ⟨r',e1,s1⟩:=Ey h k hv hs'
   refine ⟨(.str s0,v0) :: r',by rw [kI,bW h,fW hk]; simp only [e1],fun e he=>?_,fun q=>?_⟩
   ·rcases mem_cons.1 he with rfl | he
    ·exact ⟨⟨s0,rfl⟩,i0⟩
    ·exact s1.1 e he
   ·have:=hs.2 q
    show _ = some (if q = k then some v else get q)
    rw [iN,bW h] at this ⊢
    by_cases hq:q = s0
    ·rw [g_ hq] at this ⊢
     rw [if_neg (show q ≠ k by rw [hq]; exact Ne.symm hk)]
     exact this
    ·rw [fW hq]
     have h2:=s1.2 q
     dsimp only at h2
     rw [if_neg hq] at h2
     exact h2
def SB (E:Env) (es:List (V × V)) (p:aU -> Bool):Prop:=SM E es fun k=>if p k = true then some (.bool true) else none
theorem MY:SB E [] fun _=>false:=HT
theorem Ss (h:bM E) {es:List (V × V)} {p:aU -> Bool} (hs:SB E es p) (k:aU):∃ es',kI (eN E 9) (.str k) (.bool true) es = some es' /\ SB E es' fun q=>p q || decide (q = k):=by
 obtain ⟨es',h1,h2⟩:=Ey h (v:=.bool true) k rfl hs
 refine ⟨es',h1,h2.1,fun q=>(h2.2 q).trans ?_⟩
 show some (if q = k then some (V.bool true) else if p q = true then some (V.bool true) else none) = some (if (p q || decide (q = k)) = true then some (V.bool true) else none)
 by_cases hq:q = k
 ·rw [if_pos hq,decide_eq_true hq,Bool.or_true,if_pos rfl]
 ·rw [if_neg hq,decide_eq_false hq,Bool.or_false]
theorem SB.congr {es:List (V × V)} {p q:aU -> Bool} (hs:SB E es p) (e:∀ k,p k = q k):SB E es q:=by
 rwa [show p = q from funext e] at hs
theorem ES (h:bM E) {Z:Sg} {x:V} {es:List (V × V)} {p:aU -> Bool} (hx:entriesOf Z x = some es) (hs:SB E es p) (k:aU):lookup E Z 98 x (.str k) false = some (.bool (p k)):=by
 have hk:dQ E 9 (.str k) = true:=by unfold dQ; rw [h.dA]
 unfold Ax.lookup
 simp only [h.AF,h.Df,hk,hx,hs.2 k,Bool.not_true,Bool.false_eq_true,if_false]
 cases p k <;> rfl
theorem Ma (h:bM E) {Z:Sg} {b:Nat} {es:List (V × V)} {p:aU -> Bool} (hb:Z[b]? = some (.map es)) (hs:SB E es p) (k:aU):∃ es',mapUpdate E Z 98 (.mp b) (.str k) (.bool true) = some (Z.set b (.map es')) /\ SB E es' fun q=>p q || decide (q = k):=by
 obtain ⟨es',h1,h2⟩:=Ss h hs k
 have hk:dQ E 9 (.str k) = true:=by unfold dQ; rw [h.dA]
 refine ⟨es',?_,h2⟩
 unfold Ax.mapUpdate
 simp only [h.AF,hk,hb,h1,eX,V.a_,Bool.not_true,Bool.or_self,Bool.false_eq_true,if_false,Option.map_some]
theorem KG (h:bM E) {Z:Sg} {b m:Nat} {es:List (V × V)} {get:aU -> Option V} (hb:Z[b]? = some (.map es)) (hs:SM E es get):bT Z E.ty true (m + 2) (.mp b) = some (.imp true es):=by
 rw [bT]
 simp only [hb]
 rw [iR fun e he=>?_]
 obtain ⟨⟨k,e1⟩,e2⟩:=hs.1 e he
 obtain ⟨a,v⟩:=e
 dsimp only at e1 e2
 subst e1
 have e3:bT Z E.ty true (m + 1) v = some v:=jK e2
 have e4:=b_ e2
 have hpc:(V.str k).cells.all Ax.plainCell = true:=rfl
 cases v <;> first
  | (simp only [hpc,e3,e4,if_true]; done)
  | cases e2
theorem Dl (h:bM E) {Z:Sg} {f k b t:Nat} {ex:Bool} {es:List (V × V)} {get:aU -> Option V} (hk:Z[k]? = some (.cells t [.mp b] ex)) (hb:Z[b]? = some (.map es)) (hs:SM E es get):aT Z E.ty true (.fn f [] [.ref k 0]) = some (.fn f [] [.dN true [.imp true es]]):=by
 refine vH hk ?_
 simp only [aX,KG (m:=9) h hb hs,show cK true (V.imp true es) = true from rfl,if_true]
theorem Oy (h:bM E) {es:List (V × V)} {p:aU -> Bool} {y:aU} {g g2:Bool} (hs:SB E es p):aB E 145 [.str y,.dN g [.imp g2 es]] [] K = K (.bool (p y)) []:=by
 refine aB.of ?_
 have hi:Ax.bD (.dN g [.imp g2 es]) = true:=rfl
 have ew:=cO (Z:=[]) (ty:=E.ty) hi (b_ hi)
 rw [aH h.W_ h.UE h.XU h.Wa (args':=[.str y,.dN g [.imp g2 es]]) (by simp only [aX,cZ,ew]),aZ (by kernel_rfl)]
 have hl:=fun Z=>ES (Z:=Z) (x:=.imp g2 es) h rfl hs y
 simp only [aA,Tryz.f145,KP,Ax.loadAt,↓reduceIte,reduceEqDiff,reduceLT,reduceAdd,reduceCtorEq,h.AF,hl]
 exact rfl
theorem Ox (h:bM E) {es:List (V × V)} {p:aU -> Bool} {y:aU} {g g2:Bool} (hs:SB E es p):aB E 146 [.str y,.dN g [.imp g2 es]] [] K = K (.bool (!p y)) []:=by
 refine aB.of ?_
 have hi:Ax.bD (.dN g [.imp g2 es]) = true:=rfl
 have ew:=cO (Z:=[]) (ty:=E.ty) hi (b_ hi)
 rw [aH h.W9 h.UD h.XT h.V_ (args':=[.str y,.dN g [.imp g2 es]]) (by simp only [aX,cZ,ew]),aZ (by kernel_rfl)]
 have hl:=fun Z=>ES (Z:=Z) (x:=.imp g2 es) h rfl hs y
 simp only [aA,Tryz.f146,KP,Ax.loadAt,↓reduceIte,reduceEqDiff,reduceLT,reduceAdd,reduceCtorEq,h.AF,hl]
 exact rfl
end
end
section
section
variable {E:Env} {Z:Sg} {K:V -> Sg -> Prop}
structure mZ (E:Env) (Y:Sg) (kr ko mr mo:Nat) (p1 p2:aU -> Bool):Prop where
 b1:Y[kr]? = some (.cells 98 [.mp mr] true)
 b2:Y[ko]? = some (.cells 98 [.mp mo] true)
 m1:∃ es,Y[mr]? = some (.map es) /\ SB E es p1
 m2:∃ es,Y[mo]? = some (.map es) /\ SB E es p2
 ne:mr ≠ mo
theorem mZ.app {Y:Sg} {kr ko mr mo:Nat} {p1 p2:aU -> Bool} (h:mZ E Y kr ko mr mo p1 p2) (y:O):mZ E (Y ++ [y]) kr ko mr mo p1 p2:=by
 obtain ⟨e1,h1,s1⟩:=h.m1
 obtain ⟨e2,h2,s2⟩:=h.m2
 exact ⟨aM h.b1,aM h.b2,⟨e1,aM h1,s1⟩,⟨e2,aM h2,s2⟩,h.ne⟩
theorem pC {Y:Sg} {i j:Nat} {x y:O} (h1:Y[i]? = some x) (h2:Y[j]? = some y) (h:x ≠ y):i ≠ j:=fun e=>h (by rw [e,h2] at h1; exact (Option.some.inj h1).symm)
theorem mZ.Sy {Y:Sg} {kr ko mr mo:Nat} {p1 p2 q1:aU -> Bool} {es:List (V × V)} (h:mZ E Y kr ko mr mo p1 p2) (hs:SB E es q1):mZ E (Y.set mr (.map es)) kr ko mr mo q1 p2:=by
 obtain ⟨e1,h1,s1⟩:=h.m1
 obtain ⟨e2,h2,s2⟩:=h.m2
 have n1:=pC h1 h.b1 (by intro e; cases e)
 have n2:=pC h1 h.b2 (by intro e; cases e)
 exact ⟨by rw [getElem?_set_ne n1]; exact h.b1,by rw [getElem?_set_ne n2]; exact h.b2,⟨es,by rw [getElem?_set_self (List.getElem?_eq_some_iff.1 h1).1],hs⟩,⟨e2,by rw [getElem?_set_ne h.ne]; exact h2,s2⟩,h.ne⟩
theorem mZ.put2 {Y:Sg} {kr ko mr mo:Nat} {p1 p2 q2:aU -> Bool} {es:List (V × V)} (h:mZ E Y kr ko mr mo p1 p2) (hs:SB E es q2):mZ E (Y.set mo (.map es)) kr ko mr mo p1 q2:=by
 obtain ⟨e1,h1,s1⟩:=h.m1
 obtain ⟨e2,h2,s2⟩:=h.m2
 have n1:=pC h2 h.b1 (by intro e; cases e)
 have n2:=pC h2 h.b2 (by intro e; cases e)
 exact ⟨by rw [getElem?_set_ne n1]; exact h.b1,by rw [getElem?_set_ne n2]; exact h.b2,⟨e1,by rw [getElem?_set_ne (Ne.symm h.ne)]; exact h1,s1⟩,⟨es,by rw [getElem?_set_self (List.getElem?_eq_some_iff.1 h2).1],hs⟩,h.ne⟩
def h_ (rs:List aG) (k:aU):Bool:=rs.any fun q=>decide (q.name = k)
def uW (rs:List aG) (k:aU):Bool:=rs.any fun q=>decide (k ∈ q.outs)
theorem sU {rs:List aG} {n:aU}:decide (fO rs n = none) = !h_ rs n:=by
 unfold fO h_
 rw [<- cC]
 cases bE (fun r=>decide (r.name = n)) rs <;> rfl
theorem CC {rs:List aG} {i:Nat} {r:aG} (hr:rs[i]? = some r):nP rs i = (h_ (rs.take i) r.name || r.outs.any (uW (rs.take i))):=by
 unfold nP h_ uW
 rw [hr,Bool.eq_iff_iff]
 simp only [List.any_eq_true,Bool.or_eq_true,decide_eq_true_eq]
 constructor
 ·rintro ⟨q,hq,e | ⟨x,hx,e⟩⟩
  ·exact .inl ⟨q,hq,e⟩
  ·exact .inr ⟨x,hx,q,hq,e⟩
 ·rintro (⟨q,hq,e⟩ | ⟨x,hx,q,hq,e⟩)
  ·exact ⟨q,hq,.inl e⟩
  ·exact ⟨q,hq,.inr ⟨x,hx,e⟩⟩
theorem Gd {rs:List aG} {i:Nat} {r:aG} (hr:rs[i]? = some r) (k:aU):h_ (rs.take (i + 1)) k = (h_ (rs.take i) k || decide (k = r.name)):=by
 unfold h_
 rw [oU hr,decide_eq_decide.2 ⟨Eq.symm,Eq.symm⟩]
theorem H_ {rs:List aG} {i:Nat} {r:aG} (hr:rs[i]? = some r) (k:aU):uW (rs.take (i + 1)) k = (uW (rs.take i) k || decide (k ∈ r.outs)):=oU hr
theorem Vp (h:bM E) {a:V} {rs:List aG} (ia:IS dW a rs) (hs:∀ x ∈ rs,Small x) (hE:gB rs = if gE rs = true then 2 else 0) (hl:rs.length <= 4294967296) {Y:Sg} {kr ko mr mo:Nat} {p2:aU -> Bool} (bx:mZ E Y kr ko mr mo (h_ rs) p2) (F:FT) (g0:F.get 0 = a) (g7:F.get 7 = .ref kr 0) (hk:∀ nm σ',K (.fV [.int .i64 (gB rs),.str nm]) σ') :
  R E (cutAt [1,1,1,1,1] (aA Tryz.f108).code) [] ⟨81,F⟩ Y (mG E (aA Tryz.f108).results K):=by
 have la:=cT h ia
 have d28:=h.QO
 simp only [aA,Tryz.f108,cutAt,Option.getD_some] at d28
 simp only [aA,Tryz.f108,KP,↓reduceIte,reduceLT,cutAt,g0,la]
 refine aV (fun i F Y=>F.get 7 = .ref kr 0 /\ F.get 68 = a /\ F.get 69 = .int .i64 (rs.length:Int) /\ F.get 70 = .int .i64 (i:Int) /\ mZ E Y kr ko mr mo (h_ rs) p2 /\ ∀ (j:Nat) (r:aG),j < i -> rs[j]? = some r -> r.after.any (fun n=>!h_ rs n) = false) rs.length ?_ ?_ rs.length 0 _ _ (by omega) (gR (by simp +decide only [GS,g7,and_self]) ⟨bx,fun j r hj=>by omega⟩)
 ·rintro i F Y hi ⟨g7,g68,g69,g70,bx,hp⟩ next
  obtain ⟨r,hr⟩:∃ y,rs[i]? = some y:=⟨_,List.getElem?_eq_getElem hi⟩
  obtain ⟨g,p1,p2',p3,p4,e1,i1,i2,i3,i4⟩:=fC h ia hr
  have hsm:=hs r (mem_of_getElem? hr)
  have a3:=hsm.after
  have o1:=aJ i1.bD
  have o2:=aJ i2.bD
  have o3:=aJ i3.bD
  have o4:=aJ i4.bD
  have hlt:=eD hi
  have hadd:=bZ i (by omega)
  have bx1:=bx.app (O.cells 37 [.str r.name,p1,p2',p3,p4] true)
  have s1:(Y ++ [O.cells 37 [.str r.name,p1,p2',p3,p4] true])[Y.length]? = some (O.cells 37 [.str r.name,p1,p2',p3,p4] true):=aP
  rw [aF]
  simp only [KP,Ax.loadAt,Ax.storeAt,↓reduceIte,reduceEqDiff,reduceLT,reduceAdd,reduceCtorEq,h.bA,h.bK,g7,g68,g69,g70,hlt,e1,o1,o2,o3,o4,aP,cL]
  generalize Y ++ [O.cells 37 [.str r.name,p1,p2',p3,p4] true] = τ1 at *
  generalize Y.length = y at *
  obtain ⟨es,hm,hsb⟩:=bx1.m1
  have ef:=Dl (f:=146) h bx1.b1 hm hsb
  have kf:=dM (fun K=>qQ (Z:=τ1) (K:=K) (k:=146) (caps:=[.dN true [.imp true es]]) (P:=fun n=>!h_ rs n) h (i3.ls τ1 9) (by omega) (fun c hc=>by cases hc with | head=>rfl | tail _ hc=>cases hc) (fun y v hy hv=>by
   subst hv
   show aB E 146 [.str y,.dN true [.imp true es]] [] _
   rw [Ox h hsb]; exact ⟨rfl,rfl⟩) ef)
  cases m:r.after.any fun n=>!h_ rs n with
  | true=>
   have hstr:gE rs = true:=by
    unfold gE
    refine List.any_eq_true.2 ⟨r,mem_of_getElem? hr,?_⟩
    rw [<- m]
    exact congrArg (fun f=>r.after.any f) (funext fun n=>sU)
   rw [hE,if_pos hstr] at hk
   simp only [KP,Ax.loadAt,↓reduceIte,reduceEqDiff,reduceLT,reduceCtorEq,h.dA,h.bK,s1,kf,m,aW d28,bS]
   exact hk _ _
  | false=>
  simp only [KP,↓reduceIte,reduceEqDiff,reduceLT,g70,kf,m,hadd]
  refine next _ _ (gR (by simp +decide only [GS,g7,g68,g69,and_self]) ⟨bx1,fun j q hj hq=>?_⟩)
  rcases Nat.lt_or_ge j i with g | g
  ·exact hp j q g hq
  ·obtain rfl:j = i:=by omega
   rw [hr] at hq; cases hq; exact m
 ·rintro F Y ⟨g7,g68,g69,g70,bx,hp⟩
  have hstr:gE rs = false:=by
   unfold gE
   refine List.any_eq_false.2 fun r hr=>?_
   obtain ⟨j,hj,e⟩:=List.getElem_of_mem hr
   have:=hp j r hj (by rw [List.getElem?_eq_getElem hj,e])
   rw [show (r.after.any fun n=>decide (fO rs n = none)) = r.after.any fun n=>!h_ rs n from congrArg (fun f=>r.after.any f) (funext fun n=>sU),this]
   simp
  rw [hE,if_neg (by rw [hstr]; simp)] at hk
  have hlt:=eE (Nat.lt_irrefl rs.length)
  rw [aF]
  simp only [KP,↓reduceIte,reduceEqDiff,reduceLT,kU,g69,g70,hlt]
  exact hk _ _
end
end
section
section
variable {E:Env} {Z:Sg} {K:V -> Sg -> Prop}
theorem mZ.congr {Y:Sg} {kr ko mr mo:Nat} {p1 p2 q1 q2:aU -> Bool} (h:mZ E Y kr ko mr mo p1 p2) (e1:∀ k,p1 k = q1 k) (e2:∀ k,p2 k = q2 k):mZ E Y kr ko mr mo q1 q2:=by
 rwa [show p1 = q1 from funext e1,show p2 = q2 from funext e2] at h
theorem Vo (h:bM E) {a:V} {rs:List aG} (ia:IS dW a rs) (hs:∀ x ∈ rs,Small x) (hE:gB rs = if rW rs = true then 2 else if gE rs = true then 2 else 0) (hl:rs.length <= 4294967296) {Y:Sg} {kr ko mr mo:Nat} (bx:mZ E Y kr ko mr mo (fun _=>false) (fun _=>false)) (F:FT) (g0:F.get 0 = a) (g7:F.get 7 = .ref kr 0) (g8:F.get 8 = .ref ko 0) (hk:∀ nm σ',K (.fV [.int .i64 (gB rs),.str nm]) σ') :
  R E (cutAt [1,1,1,1] (aA Tryz.f108).code) [] ⟨81,F⟩ Y (mG E (aA Tryz.f108).results K):=by
 have la:=cT h ia
 have key:=fun (hE':gB rs = if gE rs = true then 2 else 0) Y p2 bx F g0 g7=>Vp (K:=K) (Y:=Y) (kr:=kr) (ko:=ko) (mr:=mr) (mo:=mo) (p2:=p2) h ia hs hE' hl bx F g0 g7 hk
 rw [show cutAt [1,1,1,1] (aA Tryz.f108).code = .seq (cutAt [1,1,1,1,0] (aA Tryz.f108).code) (cutAt [1,1,1,1,1] (aA Tryz.f108).code) from rfl]
 have d16:=h.QS
 simp only [aA,Tryz.f108,cutAt,Option.getD_some] at d16
 generalize cutAt [1,1,1,1,1] (aA Tryz.f108).code = C at key ⊢
 simp only [aA,Tryz.f108,KP,↓reduceIte,reduceLT,cutAt,g0,la]
 refine aV (fun i F Y=>F.get 0 = a /\ F.get 7 = .ref kr 0 /\ F.get 8 = .ref ko 0 /\ F.get 35 = a /\ F.get 36 = .int .i64 (rs.length:Int) /\ F.get 37 = .int .i64 (i:Int) /\ mZ E Y kr ko mr mo (h_ (rs.take i)) (uW (rs.take i)) /\ ∀ j,j < i -> nP rs j = false) rs.length ?_ ?_ rs.length 0 _ _ (by omega) (CE (by simp +decide only [GS,g0,g7,g8,and_self]) ⟨bx,fun j hj=>by omega⟩)
 ·rintro i F Y hi ⟨g0,g7,g8,g35,g36,g37,bx,hp⟩ next
  obtain ⟨r,hr⟩:∃ y,rs[i]? = some y:=⟨_,List.getElem?_eq_getElem hi⟩
  obtain ⟨g,p1,p2',p3,p4,e1,i1,i2,i3,i4⟩:=fC h ia hr
  have hsm:=hs r (mem_of_getElem? hr)
  have a2:=hsm.outs
  have o1:=aJ i1.bD
  have o2:=aJ i2.bD
  have o3:=aJ i3.bD
  have o4:=aJ i4.bD
  have hlt:=eD hi
  have hadd:=bZ i (by omega)
  have lo:=bN h i2
  have bx1:=bx.app (O.cells 37 [.str r.name,p1,p2',p3,p4] true)
  have s1:(Y ++ [O.cells 37 [.str r.name,p1,p2',p3,p4] true])[Y.length]? = some (O.cells 37 [.str r.name,p1,p2',p3,p4] true):=aP
  rw [aF]
  simp only [KP,Ax.loadAt,Ax.storeAt,↓reduceIte,reduceEqDiff,reduceLT,reduceAdd,h.bK,h.AF,g7,g8,g35,g36,g37,hlt,e1,o1,o2,o3,o4,aP,cL]
  generalize Y ++ [O.cells 37 [.str r.name,p1,p2',p3,p4] true] = τ1 at *
  generalize Y.length = y at *
  obtain ⟨es1,hm1,hsb1⟩:=bx1.m1
  obtain ⟨es2,hm2,hsb2⟩:=bx1.m2
  have bb1:=bx1.b1
  have ef:=Dl (f:=145) h bx1.b2 hm2 hsb2
  have kf:=dM (fun K=>qQ (Z:=τ1) (K:=K) (k:=145) (caps:=[.dN true [.imp true es2]]) (P:=uW (rs.take i)) h (i2.ls τ1 9) (by omega) (fun c hc=>by cases hc with | head=>rfl | tail _ hc=>cases hc) (fun y v hy hv=>by
   subst hv
   show aB E 145 [.str y,.dN true [.imp true es2]] [] _
   rw [Oy h hsb2]; exact ⟨rfl,rfl⟩) ef)
  have hlk:=ES (Z:=τ1) (x:=.mp mr) h (by unfold entriesOf; simp only [hm1]) hsb1 r.name
  have hcl:=CC hr
  have yes:nP rs i = true -> gB rs = 2:=fun e=>by
   rw [hE,if_pos]
   exact List.any_eq_true.2 ⟨i,mem_range.2 hi,e⟩
  cases m1:h_ (rs.take i) r.name with
  | true=>
   rw [m1,Bool.true_or] at hcl
   rw [yes hcl] at hk
   simp only [KP,Ax.loadAt,↓reduceIte,reduceEqDiff,reduceLT,reduceCtorEq,h.dA,h.bK,s1,bb1,hlk,m1,aW d16,bS]
   exact hk _ _
  | false=>
  rw [m1,Bool.false_or] at hcl
  cases m2:r.outs.any (uW (rs.take i)) with
  | true=>
   rw [m2] at hcl
   rw [yes hcl] at hk
   simp only [KP,Ax.loadAt,↓reduceIte,reduceEqDiff,reduceLT,reduceCtorEq,h.dA,h.bA,h.bK,s1,bb1,hlk,kf,m1,m2,aW d16,bS]
   exact hk _ _
  | false=>
  rw [m2] at hcl
  obtain ⟨es1',hu,hsb1'⟩:=Ma h hm1 hsb1 r.name
  have bx2:=bx1.Sy hsb1'
  have ny:mr ≠ y:=pC hm1 s1 (by intro e; cases e)
  have s2:(τ1.set mr (.map es1'))[y]? = some (O.cells 37 [.str r.name,p1,p2',p3,p4] true):=by rw [getElem?_set_ne ny]; exact s1
  simp only [KP,Ax.loadAt,↓reduceIte,reduceEqDiff,reduceLT,reduceCtorEq,h.dA,h.bA,h.bK,h.AF,g7,s1,bb1,hlk,kf,m1,m2,hu,s2,lo]
  refine aV (fun j F Y=>F.get 0 = a /\ F.get 7 = .ref kr 0 /\ F.get 8 = .ref ko 0 /\ F.get 35 = a /\ F.get 36 = .int .i64 (rs.length:Int) /\ F.get 37 = .int .i64 (i:Int) /\ F.get 58 = p2' /\ F.get 59 = .int .i64 (r.outs.length:Int) /\ F.get 60 = .int .i64 (j:Int) /\ mZ E Y kr ko mr mo (fun k=>h_ (rs.take i) k || decide (k = r.name)) (fun k=>uW (rs.take i) k || decide (k ∈ r.outs.take j))) r.outs.length ?_ ?_ r.outs.length 0 _ _ (by omega) (Ay (by simp +decide only [GS,g0,g7,g8,g35,g36,g37,and_self]) (bx2.congr (fun _=>rfl) (fun k=>by simp)))
  ·rintro j F Y hj ⟨g0,g7,g8,g35,g36,g37,g58,g59,g60,bx⟩ next2
   obtain ⟨s,hsj⟩:∃ y,r.outs[j]? = some y:=⟨_,List.getElem?_eq_getElem hj⟩
   obtain ⟨g',e2⟩:=gC h i2 hsj
   have hlt2:=eD hj
   have hadd2:=bZ j (by omega)
   obtain ⟨es3,hm3,hsb3⟩:=bx.m2
   obtain ⟨es3',hu3,hsb3'⟩:=Ma h hm3 hsb3 s
   have bb2:=bx.b2
   rw [aF]
   simp only [KP,Ax.loadAt,↓reduceIte,reduceEqDiff,reduceLT,h.dA,h.AF,g8,g58,g59,g60,hlt2,e2,bb2,hu3,hadd2]
   refine next2 _ _ (Ay (by simp +decide only [GS,g0,g7,g8,g35,g36,g37,g58,g59,and_self]) ((bx.put2 hsb3').congr (fun _=>rfl) (fun k=>?_)))
   rw [take_add_one,hsj,Bool.or_assoc,Bool.eq_iff_iff]
   simp
  ·rintro F Y ⟨g0,g7,g8,g35,g36,g37,g58,g59,g60,bx⟩
   rw [take_of_length_le (Nat.le_refl _)] at bx
   have hlt2:=eE (Nat.lt_irrefl r.outs.length)
   rw [aF]
   simp only [KP,↓reduceIte,reduceEqDiff,reduceLT,g37,g59,g60,hlt2,hadd]
   refine next _ _ (CE (by simp +decide only [GS,g0,g7,g8,g35,g36,and_self]) ⟨bx.congr (fun k=>(Gd hr k).symm) (fun k=>(H_ hr k).symm),fun j hj=>?_⟩)
   rcases Nat.lt_or_ge j i with g | g
   ·exact hp j g
   ·obtain rfl:j = i:=by omega
    exact hcl
 ·rintro F Y ⟨g0,g7,g8,g35,g36,g37,bx,hp⟩
  have hcl:rW rs = false:=List.any_eq_false.2 fun j hj=>by rw [hp j (mem_range.1 hj)]; simp
  rw [if_neg (by rw [hcl]; simp)] at hE
  rw [take_of_length_le (Nat.le_refl _)] at bx
  have hlt:=eE (Nat.lt_irrefl rs.length)
  rw [aF]
  simp only [KP,↓reduceIte,reduceLT,g36,g37,hlt]
  exact key hE _ _ bx _ (by simp +decide only [GS,g0]) (by simp +decide only [GS,g7])
end
end
section
section
variable {E:Env} {Z:Sg} {K:V -> Sg -> Prop}
theorem uE {Y:Sg} {a b c d:O} {n:Nat}:(Y ++ [a] ++ [b] ++ [c] ++ [d])[Y.length + n]? = [a,b,c,d][n]?:=by
 rw [append_assoc,append_assoc,append_assoc,List.getElem?_append_right (by omega),Nat.add_sub_cancel_left]
 rfl
theorem N9 {Y:Sg} {a b c d x:O}:(Y ++ [a] ++ [b] ++ [c] ++ [d]).set (Y.length + 2) x = Y ++ [a] ++ [b] ++ [x] ++ [d]:=by
 rw [append_assoc,append_assoc,append_assoc,List.set_append_right _ _ (by omega),Nat.add_sub_cancel_left,append_assoc,append_assoc,append_assoc]
 rfl
theorem Lg {Y:Sg} {a b c d x:O}:(Y ++ [a] ++ [b] ++ [c] ++ [d]).set (Y.length + 3) x = Y ++ [a] ++ [b] ++ [c] ++ [x]:=by
 rw [append_assoc,append_assoc,append_assoc,List.set_append_right _ _ (by omega),Nat.add_sub_cancel_left,append_assoc,append_assoc,append_assoc]
 rfl
theorem Ir {Y:Sg} {a b c:O}:(Y ++ [a]).length = Y.length + 1 /\ (Y ++ [a] ++ [b]).length = Y.length + 2 /\ (Y ++ [a] ++ [b] ++ [c]).length = Y.length + 3:=by simp
theorem Kf (h:bM E) {a:V} {rs:List aG} (ha:LS dW 37 Z a rs) (hs:∀ x ∈ rs,Small x) (hl:rs.length <= 4294967296):aB E 108 [a] Z fun v σ'=>σ' = Z /\ ∃ nm,v = .fV [.int .i64 (gB rs),.str nm]:=by
 obtain ⟨a',ea,ia⟩:=eS h ha
 rw [aH h.Xi h.UN h.X4 h.Wj (args':=[a']) (by simp only [aX,ea]),aZ (by kernel_rfl)]
 have la:=cT h ia
 have key:=fun hE Y kr ko mr mo bx F g0 g7 g8=>Vo (K:=fun v σ1=>match cP σ1 E.ty false v with
   | some v=>∃ nm,v = .fV [.int .i64 (gB rs),.str nm]
   | none=>False) (Y:=Y) (kr:=kr) (ko:=ko) (mr:=mr) (mo:=mo) h ia hs hE hl bx F g0 g7 g8 (fun nm σ'=>⟨nm,rfl⟩)
 rw [show (aA Tryz.f108).code = .seq (cutAt [0] (aA Tryz.f108).code) (.seq (cutAt [1,0] (aA Tryz.f108).code) (.seq (cutAt [1,1,0] (aA Tryz.f108).code) (.seq (cutAt [1,1,1,0] (aA Tryz.f108).code) (cutAt [1,1,1,1] (aA Tryz.f108).code)))) from rfl]
 have d6:=h.Ts
 simp only [aA,Tryz.f108,cutAt,Option.getD_some] at d6
 generalize cutAt [1,1,1,1] (aA Tryz.f108).code = C at key ⊢
 simp only [aA,Tryz.f108,KP,↓reduceIte,reduceLT,reduceCtorEq,kU,cutAt,la]
 refine aV (fun i F Y=>F.get 0 = a' /\ F.get 16 = a' /\ F.get 17 = .int .i64 (rs.length:Int) /\ F.get 18 = .int .i64 (i:Int) /\ ∀ (j:Nat) (r:aG),j < i -> rs[j]? = some r -> bB r = 0) rs.length ?_ ?_ rs.length 0 _ _ (by omega) (gR (by simp +decide only [GS,and_self]) (fun j r hj=>by omega))
 ·rintro i F Y hi ⟨g0,g16,g17,g18,hp⟩ next
  obtain ⟨r,hr⟩:∃ y,rs[i]? = some y:=⟨_,List.getElem?_eq_getElem hi⟩
  obtain ⟨g,p1,p2,p3,p4,e1,i1,i2,i3,i4⟩:=fC h ia hr
  have hsm:=hs r (mem_of_getElem? hr)
  have o1:=aJ i1.bD
  have o2:=aJ i2.bD
  have o3:=aJ i3.bD
  have o4:=aJ i4.bD
  have hlt:=eD hi
  have hadd:=bZ i (by omega)
  have s1:(Y ++ [O.cells 37 [.str r.name,p1,p2,p3,p4] true])[Y.length]? = some (O.cells 37 [.str r.name,p1,p2,p3,p4] true):=aP
  have kr:=fun (Y:Sg)=>Qk (Z:=Y) h (v:=.agg [.str r.name,p1,p2,p3,p4]) ⟨p1,p2,p3,p4,rfl,i1,i2,i3,i4⟩ hsm
  rw [aF]
  simp only [KP,Ax.loadAt,Ax.storeAt,↓reduceIte,reduceEqDiff,reduceLT,reduceAdd,h.bK,g16,g17,g18,hlt,e1,o1,o2,o3,o4,aP,cL]
  generalize Y ++ [O.cells 37 [.str r.name,p1,p2,p3,p4] true] = τ1 at *
  generalize Y.length = y at *
  by_cases he:bB r = 0
  ·have q:=decide_eq_true he
   simp only [KP,↓reduceIte,reduceEqDiff,reduceLT,g18,kr,q,hadd]
   refine next _ _ (gR (by simp +decide only [GS,g0,g16,g17,and_self]) (fun j x hj hx=>?_))
   rcases Nat.lt_or_ge j i with g | g
   ·exact hp j x g hx
   ·obtain rfl:j = i:=by omega
    rw [hr] at hx; cases hx; exact he
  ·have q:=decide_eq_false he
   rw [zN hr he fun j s hj hx=>hp j s hj hx]
   simp only [KP,Ax.loadAt,↓reduceIte,reduceEqDiff,reduceLT,reduceCtorEq,h.dA,h.bK,s1,kr,q,aW d6,bS]
   exact ⟨r.name,rfl⟩
 ·rintro F Y ⟨g0,g16,g17,g18,hp⟩
  have hE:=xS fun j s hx=>hp j s (List.getElem?_eq_some_iff.1 hx).1 hx
  have hlt:=eE (Nat.lt_irrefl rs.length)
  rw [aF]
  by_cases h40:40 < rs.length
  ·have q:decide ((40:Int) < (rs.length:Int)) = true:=decide_eq_true (by omega)
   rw [if_pos h40] at hE
   rw [hE]
   simp only [KP,↓reduceIte,reduceEqDiff,reduceLT,reduceCtorEq,kU,g0,g17,g18,hlt,la,q]
   exact ⟨[],rfl⟩
  ·have q:decide ((40:Int) < (rs.length:Int)) = false:=decide_eq_false (by omega)
   rw [if_neg h40] at hE
   have n1:=(Ir (Y:=Y) (a:=.map []) (b:=.map []) (c:=.cells 98 [.bU] true)).1
   have n2:=(Ir (Y:=Y) (a:=.map []) (b:=.map []) (c:=.cells 98 [.bU] true)).2.1
   have n3:=(Ir (Y:=Y) (a:=.map []) (b:=.map []) (c:=.cells 98 [.bU] true)).2.2
   have q1:(Y ++ [O.map []] ++ [O.map []] ++ [O.cells 98 [.bU] true] ++ [O.cells 98 [.bU] true])[Y.length + 2]? = some (O.cells 98 [.bU] true):=uE
   have q2:(Y ++ [O.map []] ++ [O.map []] ++ [O.cells 98 [.mp Y.length] true] ++ [O.cells 98 [.bU] true])[Y.length + 3]? = some (O.cells 98 [.bU] true):=uE
   simp only [KP,Ax.storeAt,↓reduceIte,reduceEqDiff,reduceLT,reduceCtorEq,h.AF,g0,g17,g18,hlt,la,q,n1,n2,n3,q1,q2,N9,Lg]
   refine key hE _ (Y.length + 2) (Y.length + 3) Y.length (Y.length + 1) ⟨uE,uE,⟨[],uE (n:=0),MY⟩,⟨[],uE,MY⟩,by omega⟩ _ ?_ ?_ ?_
   ·exact (by simp +decide only [GS,g0])
   ·exact (by simp +decide only [GS])
   ·exact (by simp +decide only [GS])
end
end
section
section
variable {E:Env} {Z:Sg} {K:V -> Sg -> Prop}
theorem DR {lt:List V -> List V -> Bool} (x:List V):∀ l,(Cb lt x l).Perm (x :: l)
 | []=>.refl _
 | y :: r=>by
  rw [Cb]
  split
  ·exact .refl _
  ·exact ((DR x r).cons y).trans (.swap x y r)
theorem Ci {lt:List V -> List V -> Bool}:∀ (l acc:List (List V)),(l.foldl (fun acc x=>Cb lt x acc) acc).Perm (l ++ acc)
 | [],acc=>.refl _
 | x :: l,acc=>by
  rw [List.foldl_cons]
  refine (Ci l _).trans ?_
  exact ((DR x acc).append_left l).trans List.perm_middle
theorem HP {lt:List V -> List V -> Bool} (l:List (List V)):(kE lt l).Perm l:=by
 have:=Ci (lt:=lt) l []
 rwa [List.append_nil] at this
def Fu:List V -> aU
 | [.str s]=>s
 | _=>[]
theorem A1:∀ {rs:List (List V)} {l:List aU},eR aK.P rs l -> rs = l.map fun s=>[V.str s]
 | _,_,.nil=>rfl
 | _,_,.cons h t=>by rw [map_cons,A1 t,show _ = [V.str _] from h]
theorem yO:∀ l:List aU,eR aK.P (l.map fun s=>[V.str s]) l
 | []=>.nil
 | _ :: l=>.cons rfl (yO l)
theorem zK:∀ l:List aU,((l.map fun s=>[V.str s]).flatten).map (fun v=>[v]) = l.map fun s=>[V.str s]
 | []=>rfl
 | s :: l=>by simp only [map_cons,List.flatten_cons,List.map_append,zK l]; rfl
theorem AD:∀ {l:List aU},(∀ s ∈ l,s.length <= 9223372036854775807) -> allRows jX (l.map fun s=>[V.str s]) = true
 | [],_=>rfl
 | s :: l,h=>by
  have h1:jX [V.str s] = true:=Nat.ble_eq_true_of_le (h s (mem_cons_self ..))
  rw [map_cons,allRows,h1]
  exact AD fun x hx=>h x (mem_cons_of_mem _ hx)
theorem De:∀ {rows:List (List V)},(∀ r ∈ rows,∃ s,r = [V.str s]) -> rows = (rows.map Fu).map fun s=>[V.str s]
 | [],_=>rfl
 | r :: rows,h=>by
  obtain ⟨s,e⟩:=h r (mem_cons_self ..)
  rw [map_cons,map_cons,<- De fun x hx=>h x (mem_cons_of_mem _ hx),e]
  rfl
theorem DU {Z:Sg} {w:V} {l:List aU} (ow:bF aK 9 Z w l) (hl:l.length <= 1000000) (hs:∀ s ∈ l,s.length <= 9223372036854775807):∃ σ' l',oJ 9 [w] Z = some (.fV [],σ') /\ l'.Perm l /\ bF aK 9 σ' w l' /\ Sp Z σ' w /\ σ'.length = Z.length:=by
 rcases ow with ⟨rfl,rfl⟩ | ⟨b,rs,ex,rfl,hb,ha⟩
 ·exact ⟨Z,[],rfl,.refl _,.inl ⟨rfl,rfl⟩,Sp.refl _ _,rfl⟩
 ·obtain rfl:=A1 ha
  have hp:(kE strLt (l.map fun s=>[V.str s])).Perm (l.map fun s=>[V.str s]):=HP _
  have he:((kE strLt (l.map fun s=>[V.str s])).map Fu).Perm l:=by
   have:=hp.map Fu
   rwa [List.map_map,show Fu ∘ (fun s=>[V.str s]) = id from rfl,List.map_id] at this
  have hr:kE strLt (l.map fun s=>[V.str s]) = ((kE strLt (l.map fun s=>[V.str s])).map Fu).map fun s=>[V.str s]:=by
   refine De fun r hr=>?_
   obtain ⟨s,-,e⟩:=mem_map.1 (hp.mem_iff.1 hr)
   exact ⟨s,e.symm⟩
  have hlen:((l.map fun s=>[V.str s]).flatten).length = l.length:=by
   have:=congrArg List.length (zK l)
   rwa [length_map,length_map] at this
  refine ⟨Z.set b (.cells 9 (kE strLt (l.map fun s=>[V.str s])).flatten ex),_,?_,he,.inr ⟨b,_,ex,?_,?_,yO _⟩,?_,?_⟩
  ·unfold oJ
   simp only [hb,zK,AD hs,show Nat.beq 9 9 = true from rfl,hlen,Nat.ble_eq_true_of_le hl,show Nat.beq l.length l.length = true from Nat.beq_refl _]
  ·rw [length_map,hp.length_eq,length_map]
  ·rw [getElem?_set_self (List.getElem?_eq_some_iff.1 hb).1,<- hr]
  ·intro c o hc hn
   rw [getElem?_set_ne (fun e=>hn (by rw [<- e]; rfl))]
   exact hc
  ·rw [length_set]
end
end
section
section
variable {E:Env} {Z:Sg} {K:V -> Sg -> Prop}
def OL (Y:Sg) (v:V) (l:List aU):Prop:=(v = .aD /\ l = []) \/ ∃ b cs ex,v = .sl b 0 l.length none /\ Y[b]? = some (.cells 9 cs ex) /\ cs.take l.length = l.map V.str
theorem Cm:∀ l:List aU,(l.map fun s=>[V.str s]).flatten = l.map V.str
 | []=>rfl
 | s :: l=>by simp only [map_cons,List.flatten_cons,Cm l]; rfl
theorem Gz (h:bM E) {b off n k:Nat} (hk:k < n):indexAddr E 28 (.sl b off n none) (.int .i64 (k:Int)) = some (.ref b (off + k)):=by
 unfold Ax.indexAddr
 simp only [h.bA,h.dA,show ¬ ((k:Int) < 0) by omega,if_false,Int.toNat_natCast,hk,if_true,Nat.mul_one]
theorem JL (h:bM E) {Y:Sg} {b j:Nat} {A:List aU} {ex:Bool} {s:aU} (hb:Y[b]? = some (O.cells 9 (A.map V.str) ex)) (hj:A[j]? = some s):loadAt E Y 9 (.ref b j) = some (.str s):=by
 unfold Ax.loadAt
 have e:(A.map V.str)[j]? = some (.str s):=by rw [List.getElem?_map,hj]; rfl
 simp only [h.dA,hb,e,Ax.isAgg]
 rfl
theorem wP:∀ (A:List aU) (j:Nat) (s:aU),j < A.length -> setCells (A.map V.str) j [.str s] = (A.set j s).map V.str
 | [],_,_,h=>absurd h (by simp)
 | a :: A,0,s,_=>rfl
 | a :: A,j + 1,s,h=>by
  have:=wP A j s (by simpa using h)
  simp only [map_cons,List.set_cons_succ,<- this]
  rfl
theorem T9 (h:bM E) {Y:Sg} {b j:Nat} {A:List aU} {ex:Bool} {s:aU} (hb:Y[b]? = some (O.cells 9 (A.map V.str) ex)) (hj:j < A.length):storeAt E Y 9 (.ref b j) (.str s) = some (Y.set b (O.cells 9 ((A.set j s).map V.str) ex)):=by
 unfold Ax.storeAt
 have e:decide (j + 1 <= (A.map V.str).length) = true:=decide_eq_true (by rw [length_map]; omega)
 simp only [h.dA,hb,V.cells,length_cons,length_nil,List.all_cons,List.all_nil,V.a_,e,wP A j s hj]
 rfl
theorem NH (h:bM E) {Y:Sg} {b off n:Nat}:lenOf E Y 28 (.sl b off n none) = some n:=by unfold lenOf; rw [h.bA]
theorem J2 (h:bM E) {Y:Sg} {b n k:Nat} {A:List aU} {ex:Bool} (hb:Y[b]? = some (O.cells 9 (A.map V.str) ex)) (hn:n = A.length) (hk:k < n):Ax.slice E Y 28 (.sl b 0 n none) (some (.int .i64 (k:Int))) none none = some (.sl b k (n - k) none):=by
 unfold Ax.slice
 simp only [h.bA,h.dA,hb,bound,show decide (0 <= (k:Int)) = true from decide_eq_true (by omega),show decide ((k:Int) <= (n:Int)) = true from decide_eq_true (by omega),Bool.and_self,if_true,Int.toNat_natCast,Nat.zero_add]
 show (if (1:Nat) = 0 then none else if (!(9 == 9)) = true then none else if k * 1 < (A.map V.str).length then some (V.sl b (k * 1) (n - k) none) else _) = _
 rw [if_neg (by decide),if_neg (by decide),if_pos (by rw [length_map]; omega),Nat.mul_one]
theorem Ph (h:bM E) {Y:Sg} {b n k:Nat} {cs:List V} {ex:Bool} (hb:Y[b]? = some (.cells 9 cs ex)) (hn:n = cs.length) (hk:k < n):Ax.slice E Y 28 (.sl b 0 n none) none (some (.int .i64 (k:Int))) none = some (.sl b 0 k none):=by
 unfold Ax.slice
 simp only [h.bA,h.dA,hb,bound,Fw,show decide (0 <= (k:Int)) = true from decide_eq_true (by omega),Int.toNat_natCast,Nat.zero_mul,Nat.add_zero,Nat.sub_zero,Bool.true_and]
 show (if (1:Nat) = 0 then none else if (!(9 == 9)) = true then none else match if decide ((k:Int) <= ((cs.length / 1:Nat):Int)) = true then some k else none with
  | none=>none
  | some h=>if 0 < cs.length then some (V.sl b 0 h none) else _) = _
 rw [if_neg (by decide),if_neg (by decide),if_pos (by rw [Nat.div_one]; exact decide_eq_true (by omega))]
 show (if 0 < cs.length then some (V.sl b 0 k none) else _) = _
 rw [if_pos (by omega)]
theorem Ol (h:bM E) {Y:Sg} {b n k:Nat} {A:List aU} {ex:Bool} (hb:Y[b]? = some (O.cells 9 (A.map V.str) ex)) (hn:n = A.length) (hk:k < n):∃ cs,Ax.builtin E Y .clear #[28] [.sl b k (n - k) none] = some (.fV [],Y.set b (.cells 9 cs ex)) /\ cs.take k = (A.take k).map V.str /\ cs.length = n:=by
 have hne:¬ n - k = 0:=by omega
 have hle:decide (k + (n - k) * 1 <= (A.map V.str).length) = true:=decide_eq_true (by rw [length_map]; omega)
 refine ⟨setCells (A.map V.str) k (gU (n - k) [.str []]),?_,?_,?_⟩
 ·unfold Ax.builtin
  show (match E.ty 28 with
   | some { kd:=.sl e,.. }=>match E.ty e,Y[b]? with
    | some i,some (.cells u cs ex)=>
     if n - k = 0 then some (V.fV [],Y)
     else if u == e && decide (k + (n - k) * i.size <= cs.length) then some (V.fV [],Y.set b (.cells u (setCells cs k (gU (n - k) i.zero.cells)) ex)) else none
    | _,_=>none
   | _=>none) = _
  simp only [h.bA,h.dA,hb,hne,if_false]
  rw [hle]
  rfl
 ·rw [List.map_take]
  clear hle hne
  unfold setCells
  rw [append_assoc,List.take_append_of_le_length (by rw [length_take,length_map]; omega),List.take_take,Nat.min_self]
 ·have hr:∀ m,(gU m [V.str []]).length = m:=fun m=>by
   induction m with
   | zero=>rfl
   | succ m ih=>rw [gU,length_append,ih]; simp; omega
  unfold setCells
  simp only [length_append,length_take,List.length_drop,length_map,hr]
  omega
end
end
section
section
variable {E:Env} {Z:Sg} {K:V -> Sg -> Prop}
theorem Sp.set {Z Y:Sg} {w:V} {b:Nat} {y:O} (h:Sp Z Y w) (hb:aQ w = some b):Sp Z (Y.set b y) w:=fun c o hc hn=>by
 rw [getElem?_set_ne (fun e=>hn (by rw [hb,e]))]
 exact h c o hc hn
theorem fJ {l:List aU} {k:Nat} {u:aU} (hu:l[k]? = some u) (x:aU):x ∈ l.take (k + 1) ↔ x ∈ l.take k \/ x = u:=by
 rw [take_add_one,hu]; simp
theorem LP (h:bM E) {w:V} {l:List aU} (ow:bF aK 9 Z w l) (hl:l.length <= 1000000):aB E 110 [w] Z fun v σ'=>(∃ l',OL σ' v l' /\ l'.length <= l.length /\ ∀ x,x ∈ l' ↔ x ∈ l) /\ (∀ c,aQ v = some c -> aQ w = some c) /\ Sp Z σ' w /\ σ'.length = Z.length:=by
 rw [c_ h.Xg h.UL h.X1 h.Wh,aZ (by kernel_rfl)]
 rcases ow with ⟨rfl,rfl⟩ | ⟨b,rs,ex,rfl,hb,ha⟩
 ·have ln:lenOf E Z 28 .aD = some 0:=by unfold lenOf; rw [h.bA]
  simp only [aA,Tryz.f110,KP,↓reduceIte,reduceLT,reduceCtorEq,Int.reduceLT,ln]
  exact ⟨⟨[],.inl ⟨rfl,rfl⟩,Nat.le_refl _,fun x=>Iff.rfl⟩,fun c hc=>hc,Sp.refl _ _⟩
 obtain rfl:=A1 ha
 rw [Cm] at hb
 have hls:OL Z (.sl b 0 l.length none) l:=.inr ⟨b,_,ex,rfl,hb,take_of_length_le (by rw [length_map]; exact Nat.le_refl _)⟩
 have lw:∀ Y,lenOf E Y 28 (.sl b 0 l.length none) = some l.length:=fun Y=>NH h
 by_cases h2:l.length < 2
 ·have q:decide ((l.length:Int) < 2) = true:=decide_eq_true (by omega)
  simp only [aA,Tryz.f110,KP,↓reduceIte,reduceLT,reduceCtorEq,lw,q]
  exact ⟨⟨l,hls,Nat.le_refl _,fun x=>Iff.rfl⟩,fun c hc=>hc,Sp.refl _ _⟩
 have q:decide ((l.length:Int) < 2) = false:=decide_eq_false (by omega)
 have d6:=h.Tr
 simp only [aA,Tryz.f110,cutAt,Option.getD_some] at d6
 have d11:=h.QN
 simp only [aA,Tryz.f110,cutAt,Option.getD_some] at d11
 simp only [aA,Tryz.f110,KP,↓reduceIte,reduceLT,reduceCtorEq,lw,q]
 refine aV (fun i F Y=>Y = Z /\ F.get 0 = .sl b 0 l.length none /\ F.get 3 = .int .i64 ((i + 1:Nat):Int)) (l.length - 1) ?_ ?_ (l.length - 1) 0 _ _ (by omega) ⟨rfl,(by simp +decide only [GS]),(by simp +decide only [GS]; rfl)⟩
 ·rintro i F Y hi ⟨rfl,g0,g3⟩ next
  obtain ⟨x,hx⟩:∃ x,l[i + 1]? = some x:=⟨_,List.getElem?_eq_getElem (by omega)⟩
  obtain ⟨y,hy⟩:∃ y,l[i]? = some y:=⟨_,List.getElem?_eq_getElem (by omega)⟩
  have hlt:=eD (show i + 1 < l.length by omega)
  have hdn:=Db (i + 1) (by omega) (by omega)
  rw [Nat.add_sub_cancel] at hdn
  have hadd:=bZ (i + 1) (by omega)
  have e1:=Gz (b:=b) (off:=0) h (show i + 1 < l.length by omega)
  have e2:=Gz (b:=b) (off:=0) h (show i < l.length by omega)
  rw [Nat.zero_add] at e1 e2
  have e3:=JL h hb hx
  have e4:=JL h hb hy
  rw [aF]
  by_cases hxy:x = y
  case neg=>
   have hs:=fW hxy
   simp only [KP,↓reduceIte,reduceEqDiff,reduceLT,reduceCtorEq,g0,g3,lw,hlt,hdn,hadd,e1,e2,e3,e4,hs,aW d6,bS]
   exact next _ _ ⟨rfl,(by simp +decide only [GS,g0,and_self])⟩
  have hs:=g_ hxy
  have e5:=J2 h hb rfl (show i + 1 < l.length by omega)
  simp only [KP,↓reduceIte,reduceEqDiff,reduceLT,reduceCtorEq,g0,g3,lw,hlt,hdn,e1,e2,e3,e4,e5,hs,aW d6,bS]
  have hly:y ∈ l.take (i + 1):=mem_of_getElem? (by rw [List.getElem?_take_of_lt (Nat.lt_succ_self i)]; exact hy)
  have bo:aQ (.sl b 0 l.length none) = some b:=rfl
  have lw2:∀ Y,lenOf E Y 28 (.sl b (i + 1) (l.length - (i + 1)) none) = some (l.length - (i + 1)):=fun Y=>NH h
  refine aV (fun j F τ'=>F.get 0 = .sl b 0 l.length none /\ F.get 4 = .sl b (i + 1) (l.length - (i + 1)) none /\ F.get 5 = .int .i64 ((j + 1:Nat):Int) /\ Sp Y τ' (.sl b 0 l.length none) /\ τ'.length = Y.length /\ ∃ (A:List aU) (K:Nat),τ'[b]? = some (O.cells 9 (A.map V.str) ex) /\ A.length = l.length /\ F.get 3 = .int .i64 (K:Int) /\ i + 1 <= K /\ K <= i + 1 + j /\ (∀ p,i + 1 + j <= p -> A[p]? = l[p]?) /\ ∀ x,x ∈ A.take K ↔ x ∈ l.take (i + 1 + j + 1)) (l.length - (i + 1) - 1) ?_ ?_ (l.length - (i + 1) - 1) 0 _ _ (by omega) (kZ (by simp +decide only [GS,g0,and_self]) ⟨(by simp +decide only [GS]; rfl),Sp.refl _ _,rfl,l,i + 1,hb,rfl,(by simp +decide only [GS,g3]),Nat.le_refl _,Nat.le_refl _,fun p _=>rfl,fun z=>by
   rw [fJ (k:=i + 1 + 0) (u:=x) hx]
   constructor
   ·exact .inl
   ·rintro (g | rfl)
    ·exact g
    ·rw [hxy]; exact hly⟩)
  ·rintro j F τ' hj ⟨g0,g4,g5,sp,hlen,A,K,hA,hAl,g3,hK1,hK2,hag,hmem⟩ next2
   obtain ⟨u,hu⟩:∃ u,l[i + 1 + j + 1]? = some u:=⟨_,List.getElem?_eq_getElem (by omega)⟩
   obtain ⟨v,hv⟩:∃ v,l[i + 1 + j]? = some v:=⟨_,List.getElem?_eq_getElem (by omega)⟩
   have hu':A[i + 1 + (j + 1)]? = some u:=(hag _ (by omega)).trans hu
   have hv':A[i + 1 + j]? = some v:=(hag _ (by omega)).trans hv
   have hlt2:=eD (show j + 1 < l.length - (i + 1) by omega)
   have hdn2:=Db (j + 1) (by omega) (by omega)
   rw [Nat.add_sub_cancel] at hdn2
   have hadd2:=bZ (j + 1) (by omega)
   have hadd3:=bZ K (by omega)
   have f1:=Gz (b:=b) (off:=i + 1) h (show j + 1 < l.length - (i + 1) by omega)
   have f2:=Gz (b:=b) (off:=i + 1) h (show j < l.length - (i + 1) by omega)
   have f3:=JL h hA hu'
   have f4:=JL h hA hv'
   have f5:=Gz (b:=b) (off:=0) h (show K < l.length by omega)
   rw [Nat.zero_add] at f5
   have f6:=T9 (s:=u) h hA (show K < A.length by omega)
   have hms:∀ z,z ∈ l.take (i + 1 + (j + 1) + 1) ↔ z ∈ l.take (i + 1 + j + 1) \/ z = u:=fJ hu
   rw [aF]
   by_cases huv:u = v
   ·have hs2:=g_ huv
    simp only [KP,↓reduceIte,reduceEqDiff,reduceLT,g4,g5,lw2,hlt2,hdn2,hadd2,f1,f2,f3,f4,hs2,aW d11,bS]
    refine next2 _ _ (fL (by simp +decide only [GS,g0,g4,and_self]) ⟨sp,hlen,A,K,hA,hAl,(by simp +decide only [GS,g3]),hK1,by omega,fun p hp=>hag p (by omega),fun z=>?_⟩)
    rw [hms,hmem]
    constructor
    ·exact .inl
    ·rintro (g | rfl)
     ·exact g
     ·rw [huv]
      exact mem_of_getElem? (by rw [List.getElem?_take_of_lt (Nat.lt_succ_self (i + 1 + j))]; exact hv)
   ·have hs2:=fW huv
    simp only [KP,↓reduceIte,reduceEqDiff,reduceLT,reduceCtorEq,g0,g3,g4,g5,lw2,hlt2,hdn2,hadd2,hadd3,f1,f2,f3,f4,f5,f6,hs2,aW d11,bS]
    refine next2 _ _ (fL (by simp +decide only [GS,g0,g4,and_self]) ⟨Sp.set sp bo,by rw [length_set]; exact hlen,A.set K u,K + 1,by rw [getElem?_set_self (List.getElem?_eq_some_iff.1 hA).1],by rw [length_set]; exact hAl,(by simp +decide only [GS]),by omega,by omega,fun p hp=>?_,fun z=>?_⟩)
    ·rw [getElem?_set_ne (by omega)]; exact hag p (by omega)
    ·rw [hms,<- hmem,fJ (u:=u) (by rw [getElem?_set_self (by omega)]),List.take_set_of_le (Nat.le_refl K)]
  ·rintro F τ' ⟨g0,g4,g5,sp,hlen,A,K,hA,hAl,g3,hK1,hK2,hag,hmem⟩
   have hlt2:=eE (show ¬ l.length - (i + 1) - 1 + 1 < l.length - (i + 1) by omega)
   have f1:=J2 h hA hAl.symm (show K < l.length by omega)
   obtain ⟨cs,f2,f3,f4⟩:=Ol h hA hAl.symm (show K < l.length by omega)
   have hA2:(τ'.set b (.cells 9 cs ex))[b]? = some (.cells 9 cs ex):=by rw [getElem?_set_self (List.getElem?_eq_some_iff.1 hA).1]
   have f5:=Ph h hA2 f4.symm (show K < l.length by omega)
   have hKl:(A.take K).length = K:=by rw [length_take]; omega
   rw [aF]
   simp only [KP,↓reduceIte,reduceEqDiff,reduceLT,reduceCtorEq,g0,g3,g4,g5,lw2,hlt2,f1,f2,f5]
   refine ⟨⟨A.take K,.inr ⟨b,cs,ex,by rw [hKl],hA2,by rw [hKl]; exact f3⟩,by rw [hKl]; omega,fun z=>?_⟩,fun c hc=>hc,Sp.set sp bo,by rw [length_set]; exact hlen⟩
   ·rw [hmem,show i + 1 + (l.length - (i + 1) - 1) + 1 = l.length by omega,take_of_length_le (Nat.le_refl _)]
 ·rintro F Y ⟨rfl,g0,g3⟩
  have hlt:=eE (show ¬ l.length - 1 + 1 < l.length by omega)
  rw [aF]
  simp only [KP,↓reduceIte,reduceEqDiff,reduceLT,reduceCtorEq,g0,g3,lw,hlt]
  exact ⟨⟨l,hls,Nat.le_refl _,fun x=>Iff.rfl⟩,fun c hc=>hc,Sp.refl _ _⟩
end
end
section
section
variable {E:Env} {Z:Sg} {K:V -> Sg -> Prop}
def MK (get:aU -> Option V) (P:aU -> aU -> Prop):Prop:=∀ k,(get k = none /\ ∀ n,¬ P k n) \/ ∃ n,P k n /\ get k = some (.str n)
theorem MK.nil:MK (fun _=>none) fun _ _=>False:=fun _=>.inl ⟨rfl,fun _ h=>h⟩
theorem MK.put {get:aU -> Option V} {P:aU -> aU -> Prop} (h:MK get P) (k n:aU):MK (fun q=>if q = k then some (.str n) else get q) fun q m=>P q m \/ (q = k /\ m = n):=fun q=>by
 by_cases hq:q = k
 ·exact .inr ⟨n,.inr ⟨hq,rfl⟩,if_pos hq⟩
 ·rcases h q with ⟨h1,h2⟩ | ⟨m,h1,h2⟩
  ·exact .inl ⟨(if_neg hq).trans h1,fun m hm=>hm.elim (h2 m) fun g=>hq g.1⟩
  ·exact .inr ⟨m,.inl h1,(if_neg hq).trans h2⟩
theorem MK.congr {get:aU -> Option V} {P Q:aU -> aU -> Prop} (h:MK get P) (e:∀ k n,P k n ↔ Q k n):MK get Q:=fun k=>by
 rcases h k with ⟨h1,h2⟩ | ⟨n,h1,h2⟩
 ·exact .inl ⟨h1,fun n hn=>h2 n ((e k n).2 hn)⟩
 ·exact .inr ⟨n,(e k n).1 h1,h2⟩
theorem PY (h:bM E) {Z:Sg} {x:V} {es:List (V × V)} {get:aU -> Option V} (hx:entriesOf Z x = some es) (hs:SM E es get) (k:aU):lookup E Z 104 x (.str k) true = some (match get k with | some v=>.fV [v,.bool true] | none=>.fV [.str [],.bool false]):=by
 have hk:dQ E 9 (.str k) = true:=by unfold dQ; rw [h.dA]
 unfold Ax.lookup
 simp only [h.zZ,h.dA,hk,hx,hs.2 k,Bool.not_true,Bool.false_eq_true,if_false]
 cases get k <;> rfl
theorem RQ (h:bM E) {Z:Sg} {b:Nat} {es:List (V × V)} {get:aU -> Option V} (hb:Z[b]? = some (.map es)) (hs:SM E es get) (k n:aU):∃ es',mapUpdate E Z 104 (.mp b) (.str k) (.str n) = some (Z.set b (.map es')) /\ SM E es' fun q=>if q = k then some (.str n) else get q:=by
 obtain ⟨es',h1,h2⟩:=Ey h (v:=.str n) k rfl hs
 have hk:dQ E 9 (.str k) = true:=by unfold dQ; rw [h.dA]
 refine ⟨es',?_,h2⟩
 unfold Ax.mapUpdate
 simp only [h.zZ,hk,hb,h1,eX,V.a_,Bool.not_true,Bool.or_self,Bool.false_eq_true,if_false,Option.map_some]
def Mk (rs:List aG) (k n:aU):Prop:=∃ r ∈ rs,k ∈ r.outs /\ n = r.name
theorem Kk {rs:List aG} {i:Nat} {r:aG} (hr:rs[i]? = some r) (k n:aU):Mk (rs.take (i + 1)) k n ↔ Mk (rs.take i) k n \/ (k ∈ r.outs /\ n = r.name):=by
 unfold Mk
 rw [take_add_one,hr]
 simp only [mem_append,Option.toList_some,mem_singleton]
 constructor
 ·rintro ⟨q,hq | rfl,h⟩
  ·exact .inl ⟨q,hq,h⟩
  ·exact .inr h
 ·rintro (⟨q,hq,h⟩ | h)
  ·exact ⟨q,.inl hq,h⟩
  ·exact ⟨r,.inr rfl,h⟩
theorem VG (h:bM E) {a:V} {rs:List aG} (ia:IS dW a rs) (hs:∀ x ∈ rs,Small x) (hl:rs.length <= 4294967296) (F:FT) (g0:F.get 0 = a) (g3:F.get 3 = .mp 0)
  (hk:∀ F' Y es get,F'.get 0 = a -> F'.get 3 = .mp 0 -> Y[0]? = some (.map es) -> SM E es get -> MK get (Mk rs) -> R E (cutAt [1,1,1] (aA Tryz.f147).code) [] ⟨74,F'⟩ Y (mG E (aA Tryz.f147).results K)) :
  R E (cutAt [1,1] (aA Tryz.f147).code) [] ⟨74,F⟩ [.map []] (mG E (aA Tryz.f147).results K):=by
 have la:=cT h ia
 rw [show cutAt [1,1] (aA Tryz.f147).code = .seq (cutAt [1,1,0] (aA Tryz.f147).code) (cutAt [1,1,1] (aA Tryz.f147).code) from rfl]
 generalize cutAt [1,1,1] (aA Tryz.f147).code = C at hk ⊢
 simp only [aA,Tryz.f147,KP,↓reduceIte,reduceLT,cutAt,g0,la]
 refine aV (fun i F Y=>F.get 0 = a /\ F.get 3 = .mp 0 /\ F.get 17 = a /\ F.get 18 = .int .i64 (rs.length:Int) /\ F.get 19 = .int .i64 (i:Int) /\ ∃ es get,Y[0]? = some (.map es) /\ SM E es get /\ MK get (Mk (rs.take i))) rs.length ?_ ?_ rs.length 0 _ _ (by omega) (lY (by simp +decide only [GS,g0,g3,and_self]) ⟨[],fun _=>none,rfl,HT,MK.nil.congr fun k n=>⟨fun h=>h.elim,fun ⟨r,hr,_⟩=>by cases hr⟩⟩)
 ·rintro i F Y hi ⟨g0,g3,g17,g18,g19,es,get,hb,hsm,hmk⟩ next
  obtain ⟨r,hr⟩:∃ y,rs[i]? = some y:=⟨_,List.getElem?_eq_getElem hi⟩
  obtain ⟨g,p1,p2,p3,p4,e1,i1,i2,i3,i4⟩:=fC h ia hr
  have hsr:=hs r (mem_of_getElem? hr)
  have a2:=hsr.outs
  have o1:=aJ i1.bD
  have o2:=aJ i2.bD
  have o3:=aJ i3.bD
  have o4:=aJ i4.bD
  have hlt:=eD hi
  have hadd:=bZ i (by omega)
  have lo:=bN h i2
  have hb1:=aM (x:=O.cells 37 [.str r.name,p1,p2,p3,p4] true) hb
  have s1:(Y ++ [O.cells 37 [.str r.name,p1,p2,p3,p4] true])[Y.length]? = some (O.cells 37 [.str r.name,p1,p2,p3,p4] true):=aP
  rw [aF]
  simp only [KP,Ax.loadAt,Ax.storeAt,↓reduceIte,reduceEqDiff,reduceLT,reduceAdd,reduceCtorEq,h.bA,h.bK,g17,g18,g19,hlt,e1,o1,o2,o3,o4,aP,cL]
  generalize Y ++ [O.cells 37 [.str r.name,p1,p2,p3,p4] true] = τ1 at *
  generalize Y.length = y at *
  simp only [KP,↓reduceIte,reduceLT,lo]
  refine aV (fun j F Y=>F.get 0 = a /\ F.get 3 = .mp 0 /\ F.get 17 = a /\ F.get 18 = .int .i64 (rs.length:Int) /\ F.get 19 = .int .i64 (i:Int) /\ F.get 5 = .ref y 0 /\ F.get 24 = p2 /\ F.get 25 = .int .i64 (r.outs.length:Int) /\ F.get 26 = .int .i64 (j:Int) /\ Y[y]? = some (O.cells 37 [.str r.name,p1,p2,p3,p4] true) /\ ∃ es get,Y[0]? = some (.map es) /\ SM E es get /\ MK get fun k n=>Mk (rs.take i) k n \/ (k ∈ r.outs.take j /\ n = r.name)) r.outs.length ?_ ?_ r.outs.length 0 _ _ (by omega) (Ay (by simp +decide only [GS,g0,g3,g17,g18,g19,and_self]) ⟨s1,es,get,hb1,hsm,hmk.congr fun k n=>by simp⟩)
  ·rintro j F Y hj ⟨g0,g3,g17,g18,g19,g5,g24,g25,g26,s1,es,get,hb,hsm,hmk⟩ next2
   obtain ⟨s,hsj⟩:∃ y,r.outs[j]? = some y:=⟨_,List.getElem?_eq_getElem hj⟩
   obtain ⟨g',e2⟩:=gC h i2 hsj
   have hlt2:=eD hj
   have hadd2:=bZ j (by omega)
   obtain ⟨es',hu,hsm'⟩:=RQ h hb hsm s r.name
   have hy0:0 ≠ y:=pC hb s1 (by intro e; cases e)
   rw [aF]
   simp only [KP,Ax.loadAt,↓reduceIte,reduceEqDiff,reduceLT,reduceCtorEq,h.dA,h.bK,g3,g5,g24,g25,g26,hlt2,e2,s1,hu,hadd2]
   refine next2 _ _ (Ay (by simp +decide only [GS,g0,g3,g17,g18,g19,g5,g24,g25,and_self]) ⟨by rw [getElem?_set_ne hy0]; exact s1,es',_,by rw [getElem?_set_self (List.getElem?_eq_some_iff.1 hb).1],hsm',(hmk.put s r.name).congr fun k n=>?_⟩)
   rw [fJ hsj]
   constructor
   ·rintro ((h1 | h1) | h1)
    ·exact .inl h1
    ·exact .inr ⟨.inl h1.1,h1.2⟩
    ·exact .inr ⟨.inr h1.1,h1.2⟩
   ·rintro (h1 | ⟨h1 | h1,h2⟩)
    ·exact .inl (.inl h1)
    ·exact .inl (.inr ⟨h1,h2⟩)
    ·exact .inr ⟨h1,h2⟩
  ·rintro F Y ⟨g0,g3,g17,g18,g19,g5,g24,g25,g26,s1,es,get,hb,hsm,hmk⟩
   rw [take_of_length_le (Nat.le_refl _)] at hmk
   have hlt2:=eE (Nat.lt_irrefl r.outs.length)
   rw [aF]
   simp only [KP,↓reduceIte,reduceEqDiff,reduceLT,g19,g25,g26,hlt2,hadd]
   exact next _ _ (lY (by simp +decide only [GS,g0,g3,g17,g18,and_self]) ⟨es,get,hb,hsm,hmk.congr fun k n=>(Kk hr k n).symm⟩)
 ·rintro F Y ⟨g0,g3,g17,g18,g19,es,get,hb,hsm,hmk⟩
  rw [take_of_length_le (Nat.le_refl _)] at hmk
  have hlt:=eE (Nat.lt_irrefl rs.length)
  rw [aF]
  simp only [KP,↓reduceIte,reduceLT,g18,g19,hlt]
  exact hk _ _ es get (by simp +decide only [GS,g0]) (by simp +decide only [GS,g3]) hb hsm hmk
end
end
section
section
variable {E:Env} {Z:Sg} {K:V -> Sg -> Prop}
theorem OL.keep {Z Y:Sg} {v:V} {l:List aU} (h:OL Z v l) (k:∀ (c:Nat) (o:O),aQ v = some c -> Z[c]? = some o -> Y[c]? = some o):OL Y v l:=by
 rcases h with h | ⟨b,cs,ex,rfl,hb,ht⟩
 ·exact .inl h
 ·exact .inr ⟨b,cs,ex,rfl,k b _ rfl hb,ht⟩
theorem OL.ok {Z:Sg} {v:V} {l:List aU} (h:OL Z v l):eX v = true:=by
 rcases h with ⟨rfl,-⟩ | ⟨b,cs,ex,rfl,-⟩ <;> rfl
def RH (v:V) (l:List aU):Prop:=(v = .aD /\ l = []) \/ ∃ full,v = .bR false (l.map fun s=>[V.str s]) full
theorem nZ:∀ l:List aU,Ax.rows 1 l.length (l.map V.str) = l.map fun s=>[V.str s]
 | []=>rfl
 | s :: l=>by
  rw [length_cons,map_cons,Ax.rows,map_cons]
  exact congrArg _ (nZ l)
theorem OL.snap (h:bM E) {Z:Sg} {v:V} {l:List aU} {m:Nat} (ho:OL Z v l):∃ v',bT Z E.ty false (m + 2) v = some v' /\ RH v' l:=by
 rcases ho with ⟨rfl,rfl⟩ | ⟨b,cs,ex,rfl,hb,ht⟩
 ·exact ⟨.aD,rfl,.inl ⟨rfl,rfl⟩⟩
 ·have hle:l.length <= cs.length:=by
   have:=congrArg List.length ht
   rw [length_take,length_map] at this
   omega
  have ht1:cs.take (l.length * 1) = l.map V.str:=by rw [Nat.mul_one]; exact ht
  obtain ⟨full,e⟩:=FI (g:=false) (n:=l.length) (m:=m) hb h.dA (show l.length * 1 <= _ by omega) (fun c hcm=>by
   rw [show cs.take (l.length * 1) = l.map V.str from ht1] at hcm
   obtain ⟨s,-,rfl⟩:=mem_map.1 hcm
   exact ⟨rfl,rfl⟩)
  refine ⟨_,e,.inr ⟨full,?_⟩⟩
  show V.bR false (Ax.rows 1 l.length (cs.take (l.length * 1))) full = _
  rw [ht1,nZ]
theorem RH.tag {v:V} {l:List aU} (h:RH v l):cK false v = true:=by
 rcases h with ⟨rfl,-⟩ | ⟨full,rfl⟩ <;> rfl
def CR (Y:Sg) (N:aG -> aU -> Prop) (es:List (V × V)) (rs:List aG):Prop:=eR (fun e r=>e.1 = V.str r.name /\ ∃ l,OL Y e.2 l /\ l.length <= 1000000 /\ ∀ x,x ∈ l ↔ N r x) es rs
def AW (N:aG -> aU -> Prop) (es:List (V × V)) (rs:List aG):Prop:=eR (fun e r=>e.1 = V.str r.name /\ ∃ l,RH e.2 l /\ l.length <= 1000000 /\ ∀ x,x ∈ l ↔ N r x) es rs
theorem CR.keep {Z Y:Sg} {N:aG -> aU -> Prop} {mA:Nat} {em:List (V × V)} {es:List (V × V)} {rs:List aG} (h:CR Z N es rs) (hm:Z[mA]? = some (.map em)) (k:∀ (c:Nat) (o:O),Z[c]? = some o -> c ≠ mA -> Y[c]? = some o):CR Y N es rs:=by
 refine eR.imp h fun e r ⟨h1,l,h2,h3⟩=>⟨h1,l,h2.keep fun c o hc ho=>k c o ho ?_,h3⟩
 rintro rfl
 rcases h2 with ⟨e0,-⟩ | ⟨b,cs,ex,e0,hb,-⟩
 ·rw [e0] at hc; cases hc
 ·rw [e0] at hc
  cases hc
  rw [hm] at hb
  cases hb
theorem BQ (h:bM E) {k:aU} {v:V}:∀ {es:List (V × V)},(∀ e ∈ es,∃ q,e.1 = V.str q /\ q ≠ k) -> kI (eN E 9) (.str k) v es = some (es ++ [(.str k,v)])
 | [],_=>rfl
 | (k0,v0) :: es,hs=>by
  obtain ⟨q,e1,hq⟩:=hs _ (mem_cons_self ..)
  dsimp only at e1
  subst e1
  rw [kI,bW h,fW (Ne.symm hq)]
  simp only [BQ h fun e he=>hs e (mem_cons_of_mem _ he)]
  rfl
theorem Pk (h:bM E) {Y:Sg} {b:Nat} {N:aG -> aU -> Prop} {es:List (V × V)} {rs:List aG} {r:aG} {v:V} {l:List aU} (hb:Y[b]? = some (.map es)) (ha:CR Y N es rs) (hn:∀ q ∈ rs,q.name ≠ r.name) (hv:OL Y v l) (hl:l.length <= 1000000) (hm:∀ x,x ∈ l ↔ N r x) :
  mapUpdate E Y 96 (.mp b) (.str r.name) v = some (Y.set b (.map (es ++ [(.str r.name,v)]))) /\ CR (Y.set b (.map (es ++ [(.str r.name,v)]))) N (es ++ [(.str r.name,v)]) (rs ++ [r]):=by
 have hk:dQ E 9 (.str r.name) = true:=by unfold dQ; rw [h.dA]
 have hp:=BQ (v:=v) (k:=r.name) h (es:=es) fun e he=>by
  obtain ⟨q,hq,h1,-⟩:=eR.mem ha he
  exact ⟨q.name,h1,hn q hq⟩
 have hkeep:∀ (c:Nat) (o:O),Y[c]? = some o -> c ≠ b -> (Y.set b (.map (es ++ [(.str r.name,v)])))[c]? = some o:=fun c o hc hcb=>by
  rw [getElem?_set_ne (Ne.symm hcb)]; exact hc
 refine ⟨?_,?_⟩
 ·unfold Ax.mapUpdate
  simp only [h.ty96,hk,hb,hp,hv.ok,Bool.not_true,Bool.or_self,Bool.false_eq_true,if_false,Option.map_some]
 ·refine eR.append (ha.keep hb hkeep) (.cons ⟨rfl,l,hv.keep fun c o hc ho=>hkeep c o ho ?_,hl,hm⟩ .nil)
  rintro rfl
  rcases hv with ⟨e0,-⟩ | ⟨b',cs,ex,e0,hb',-⟩
  ·rw [e0] at hc; cases hc
  ·rw [e0] at hc
   cases hc
   rw [hb] at hb'
   cases hb'
theorem MT (h:bM E) {Y:Sg} {b:Nat} {N:aG -> aU -> Prop} {es:List (V × V)} {rs:List aG} (hb:Y[b]? = some (.map es)) (ha:CR Y N es rs):∃ es',cP Y E.ty false (.mp b) = some (.imp false es') /\ AW N es' rs:=by
 have key:∀ {es:List (V × V)} {rs:List aG},CR Y N es rs -> ∃ es',aX (fun (e:V × V)=>if e.1.cells.all Ax.plainCell then (match e.2 with
   | .agg cs=>match aX (fun v=>match bT Y E.ty false 11 v with
     | some v=>if cK false v then some v else Ax.no "snap: borrowed"
     | none=>none) cs with
    | some cs=>some (e.1,V.agg cs)
    | none=>none
   | v=>match (match bT Y E.ty false 11 v with
     | some v=>if cK false v then some v else Ax.no "snap: borrowed"
     | none=>none) with
    | some v=>some (e.1,v)
    | none=>none) else none) es = some es' /\ AW N es' rs:=by
  intro es rs ha
  induction ha with
  | nil=>exact ⟨[],rfl,.nil⟩
  | @cons e r es rs h1 _ ih=>
   obtain ⟨es',e1,a1⟩:=ih
   obtain ⟨a,v⟩:=e
   obtain ⟨h2,l,h3,h4,h5⟩:=h1
   dsimp only at h2 h3
   subst h2
   obtain ⟨v',e2,sv⟩:=h3.snap (m:=9) h
   refine ⟨(.str r.name,v') :: es',?_,.cons ⟨rfl,l,sv,h4,h5⟩ a1⟩
   rw [aX]
   have hpc:(V.str r.name).cells.all Ax.plainCell = true:=rfl
   have ht:=sv.tag
   rcases h3 with ⟨rfl,-⟩ | ⟨b',cs,ex,rfl,-⟩
   ·simp only [hpc,if_true,e2,ht,e1]
   ·simp only [hpc,if_true,e2,ht,e1]
 obtain ⟨es',e1,a1⟩:=key ha
 refine ⟨es',?_,a1⟩
 have e:bT Y E.ty false 12 (.mp b) = some (.imp false es'):=by
  rw [bT]
  simp only [hb]
  exact congrArg (fun o=>match o with
   | some l=>some (V.imp false l)
   | none=>none) e1
 show aT.one Y E.ty false (.mp b) = _
 unfold aT.one
 rw [show dV = 12 from rfl,e]
 rfl
end
end
section
section
variable {E:Env} {Z:Sg} {K:V -> Sg -> Prop}
theorem SF (h:bM E) {τ0 Y:Sg} {w p1 p2 p3 p4:V} {l:List aU} {r:aG} {y mA:Nat} {es:List (V × V)} {N:aG -> aU -> Prop} {rs:List aG} (ow:bF aK 9 Y w l) (hl:l.length <= 1000000) (kp:Kp τ0 Y) (fr:∀ b,aQ w = some b -> τ0.length <= b) (hy:τ0[y]? = some (O.cells 37 [.str r.name,p1,p2,p3,p4] true)) (hA:τ0[mA]? = some (.map es)) (ha:CR τ0 N es rs) (hn:∀ q ∈ rs,q.name ≠ r.name) (hm:∀ x,x ∈ l ↔ N r x)
  (F:FT) (g8:F.get 8 = .mp mA) (g10:F.get 10 = .ref y 0) (g11:F.get 11 = w) {st:List kA} {Q:Ax.X -> Fr -> Sg -> Prop}
  (hk:∀ F' τ' es',(∀ k,k ∈ [0,3,8,37,38,39] -> F'.get k = F.get k) -> τ'[mA]? = some (.map es') -> CR τ' N es' (rs ++ [r]) -> (∀ (c:Nat) (o:O),τ0[c]? = some o -> c ≠ mA -> τ'[c]? = some o) -> M E st .normal ⟨74,F'⟩ τ' Q):R E (.region 24 (opsOf (cutAt [1,1,1,1,0,1,2,2,1,1,0,2,1,1,1,1] (aA Tryz.f147).code)) true) st ⟨74,F⟩ Y Q:=by
 obtain ⟨n,v,τ1,hcall,⟨l',ol,hle,hmem⟩,hbk,sp,hlen⟩:=LP h ow hl
 have kp1:Kp τ0 τ1:=fun c o hc=>sp c o (kp c o hc) fun e=>absurd (List.getElem?_eq_some_iff.1 hc).1 (by have:=fr c e; omega)
 have hy0:=kp _ _ hy
 have hy1:=kp1 _ _ hy
 have hA1:=kp1 _ _ hA
 obtain ⟨hu,ha2⟩:=Pk h hA1 (ha.keep hA fun c o hc _=>kp1 c o hc) hn ol (by omega) (fun x=>(hmem x).trans (hm x))
 have vs:=wG 11 r.name
 have key:∃ F',cE E (ev E n) (opsOf (cutAt [1,1,1,1,0,1,2,2,1,1,0,2,1,1,1,1] (aA Tryz.f147).code)) ⟨74,F⟩ Y = some (⟨74,F'⟩,τ1.set mA (.map (es ++ [(.str r.name,v)]))) /\ (∀ k,k ∈ [0,3,8,37,38,39] -> F'.get k = F.get k):=by
  unfold cE
  rw [h.Pc,h.PJ]
  simp only [aA,Tryz.f147,KP,Ax.loadAt,↓reduceIte,reduceEqDiff,reduceLT,reduceAdd,reduceCtorEq,h.dA,h.bK,opsOf,cutAt,gZ,bJ,bX,jV,Ax.comp,Ax.last,hU,Ax.again,aR,g8,g10,g11,hy0,hy1,hcall,hu,vs]
  refine ⟨_,rfl,fun k hk=>?_⟩
  simp only [mem_cons,List.not_mem_nil,or_false] at hk
  rcases hk with rfl | rfl | rfl | rfl | rfl | rfl <;> simp +decide only [GS]
 obtain ⟨F',hD,h1⟩:=key
 refine Eq.mpr (gY hD) (hk F' _ _ h1 (by rw [getElem?_set_self (List.getElem?_eq_some_iff.1 hA1).1]) ha2 fun c o hc hcm=>?_)
 rw [getElem?_set_ne (Ne.symm hcm)]
 exact kp1 c o hc
end
end
section
section
variable {E:Env} {Z:Sg} {K:V -> Sg -> Prop}
def Nx (rs:List aG) (r:aG) (x:aU):Prop:=x ∈ r.after \/ ∃ f ∈ r.ins,Mk rs f x
structure Eh (rs:List aG):Prop where
 names:∀ r ∈ rs,r.name.length <= 40
 TP:∀ r ∈ rs,∀ s ∈ r.after,s.length <= 40
 nodup:∀ (i j:Nat) (p q:aG),rs[i]? = some p -> rs[j]? = some q -> p.name = q.name -> i = j
 jG:∀ f n m,Mk rs f n -> Mk rs f m -> n = m
theorem Mk.short {rs:List aG} (h:Eh rs) {f n:aU} (hm:Mk rs f n):n.length <= 40:=by
 obtain ⟨r,hr,-,rfl⟩:=hm
 exact h.names r hr
theorem VF (h:bM E) {a:V} {rs:List aG} (ia:IS dW a rs) (hs:∀ x ∈ rs,Small x) (hsh:Eh rs) (hl:rs.length <= 1000) {Y:Sg} {es0:List (V × V)} {get:aU -> Option V} (h0:Y[0]? = some (.map es0)) (hsm:SM E es0 get) (hmk:MK get (Mk rs)) (F:FT) (g0:F.get 0 = a) (g3:F.get 3 = .mp 0) :
  R E (cutAt [1,1,1] (aA Tryz.f147).code) [] ⟨74,F⟩ Y (mG E (aA Tryz.f147).results (fun v σ1=>match cP σ1 E.ty false v with
   | some v=>∃ es,v = .imp false es /\ AW (Nx rs) es rs
   | none=>False)):=by
 have la:=cT h ia
 have rest:=fun {τ0 Y w p1 p2 p3 p4 l r y mA es rs'} ow hl' kp fr hy hA ha hn hm F g8 g10 g11 st Q hk=>SF (τ0:=τ0) (Y:=Y) (w:=w) (p1:=p1) (p2:=p2) (p3:=p3) (p4:=p4) (l:=l) (r:=r) (y:=y) (mA:=mA) (es:=es) (N:=Nx rs) (rs:=rs') h ow hl' kp fr hy hA ha hn hm F g8 g10 g11 (st:=st) (Q:=Q) hk
 simp only [aA,Tryz.f147,KP,↓reduceIte,reduceLT,reduceCtorEq,cutAt,g0,la]
 have hA0:(Y ++ [O.map []])[Y.length]? = some (.map []):=aP
 have h00:=aM (x:=O.map []) h0
 have hmA:Y.length ≠ 0:=by have:=(List.getElem?_eq_some_iff.1 h0).1; omega
 generalize Y ++ [O.map []] = τ1 at *
 generalize Y.length = mA at *
 refine aV (fun i F Y=>F.get 0 = a /\ F.get 3 = .mp 0 /\ F.get 8 = .mp mA /\ F.get 37 = a /\ F.get 38 = .int .i64 (rs.length:Int) /\ F.get 39 = .int .i64 (i:Int) /\ Y[0]? = some (.map es0) /\ ∃ es,Y[mA]? = some (.map es) /\ CR Y (Nx rs) es (rs.take i)) rs.length ?_ ?_ rs.length 0 _ _ (by omega) (CE (by simp +decide only [GS,g0,g3,and_self]) ⟨h00,[],hA0,.nil⟩)
 ·rintro i F Y hi ⟨g0,g3,g8,g37,g38,g39,h0,es,hA,ha⟩ next
  obtain ⟨r,hr⟩:∃ y,rs[i]? = some y:=⟨_,List.getElem?_eq_getElem hi⟩
  have hrm:=mem_of_getElem? hr
  obtain ⟨g,p1,p2,p3,p4,e1,i1,i2,i3,i4⟩:=fC h ia hr
  have hsr:=hs r hrm
  have a1:=hsr.ins
  have a3:=hsr.after
  have o1:=aJ i1.bD
  have o2:=aJ i2.bD
  have o3:=aJ i3.bD
  have o4:=aJ i4.bD
  have hlt:=eD hi
  have hadd:=bZ i (by omega)
  have li:=bN h i1
  have hnn:∀ q ∈ rs.take i,q.name ≠ r.name:=fun q hq e=>by
   obtain ⟨j,hj⟩:=mem_iff_getElem?.1 hq
   have hji:j < i:=by have:=(List.getElem?_eq_some_iff.1 hj).1; rw [length_take] at this; omega
   rw [List.getElem?_take_of_lt hji] at hj
   have:=hsh.nodup j i q r hj hr e
   omega
  have hb1:=aM (x:=O.cells 37 [.str r.name,p1,p2,p3,p4] true) h0
  have hA1:=aM (x:=O.cells 37 [.str r.name,p1,p2,p3,p4] true) hA
  have ha1:CR (Y ++ [O.cells 37 [.str r.name,p1,p2,p3,p4] true]) (Nx rs) es (rs.take i):=ha.keep hA fun c o hc _=>aM hc
  have s1:(Y ++ [O.cells 37 [.str r.name,p1,p2,p3,p4] true])[Y.length]? = some (O.cells 37 [.str r.name,p1,p2,p3,p4] true):=aP
  rw [aF]
  simp only [KP,Ax.loadAt,Ax.storeAt,↓reduceIte,reduceEqDiff,reduceLT,reduceAdd,reduceCtorEq,h.bA,h.bK,g37,g38,g39,hlt,e1,o1,o2,o3,o4,aP,cL]
  generalize Y ++ [O.cells 37 [.str r.name,p1,p2,p3,p4] true] = τ1 at *
  generalize Y.length = y at *
  refine aN (rZ h i3 (by omega)) ?_
  rintro w0 τ2 ⟨ow0,kp0,fr0⟩
  have s2:=kp0 _ _ s1
  simp only [KP,Ax.loadAt,↓reduceIte,reduceEqDiff,reduceLT,reduceCtorEq,h.bA,h.bK,s2,li]
  refine aV (fun j F Y=>F.get 0 = a /\ F.get 3 = .mp 0 /\ F.get 8 = .mp mA /\ F.get 37 = a /\ F.get 38 = .int .i64 (rs.length:Int) /\ F.get 39 = .int .i64 (i:Int) /\ F.get 10 = .ref y 0 /\ F.get 47 = p1 /\ F.get 48 = .int .i64 (r.ins.length:Int) /\ F.get 49 = .int .i64 (j:Int) /\ Kp τ1 Y /\ ∃ w cur,F.get 11 = w /\ bF aK 9 Y w cur /\ (∀ b,aQ w = some b -> τ1.length <= b) /\ cur.length <= r.after.length + j /\ (∀ x ∈ cur,x.length <= 40) /\ ∀ x,x ∈ cur ↔ x ∈ r.after \/ ∃ f ∈ r.ins.take j,Mk rs f x) r.ins.length ?_ ?_ r.ins.length 0 _ _ (by omega) (Iz (by simp +decide only [GS,g0,g3,g8,g37,g38,g39,and_self]) ⟨kp0,w0,r.after,(by simp +decide only [GS]),ow0,fr0,Nat.le_refl _,hsh.TP r hrm,fun x=>by simp⟩)
  ·rintro j F Y hj ⟨g0,g3,g8,g37,g38,g39,g10,g47,g48,g49,kp,w,cur,g11,ow,fr,hcl,hc40,hmem⟩ next2
   obtain ⟨s,hsj⟩:∃ y,r.ins[j]? = some y:=⟨_,List.getElem?_eq_getElem hj⟩
   obtain ⟨g',e2⟩:=gC h i1 hsj
   have hlt2:=eD hj
   have hadd2:=bZ j (by omega)
   have hb2:=kp _ _ hb1
   have hlk:=PY (Z:=Y) (x:=.mp 0) h (by unfold entriesOf; simp only [hb2]) hsm s
   have hex:∀ x,(∃ f ∈ r.ins.take (j + 1),Mk rs f x) ↔ (∃ f ∈ r.ins.take j,Mk rs f x) \/ Mk rs s x:=fun x=>by
    constructor
    ·rintro ⟨f,hf,hm⟩
     rcases (fJ hsj f).1 hf with hf | rfl
     ·exact .inl ⟨f,hf,hm⟩
     ·exact .inr hm
    ·rintro (⟨f,hf,hm⟩ | hm)
     ·exact ⟨f,(fJ hsj f).2 (.inl hf),hm⟩
     ·exact ⟨s,(fJ hsj s).2 (.inr rfl),hm⟩
   rw [aF]
   rcases hmk s with ⟨hg,hno⟩ | ⟨n,hP,hg⟩
   ·rw [hg] at hlk
    simp only [KP,Ax.loadAt,↓reduceIte,reduceEqDiff,reduceLT,h.dA,g3,g47,g48,g49,hlt2,e2,hlk,hadd2]
    refine next2 _ _ (Iz (by simp +decide only [GS,g0,g3,g8,g37,g38,g39,g10,g47,g48,and_self]) ⟨kp,w,cur,(by simp +decide only [GS,g11]),ow,fr,by omega,hc40,fun x=>?_⟩)
    rw [hmem,hex]
    exact ⟨fun h=>h.elim .inl fun g=>.inr (.inl g),fun h=>h.elim .inl fun g=>.inr (g.elim id fun g=>absurd g (hno x))⟩
   ·rw [hg] at hlk
    obtain ⟨w',τ',hap,ow',sp',hln',fr'⟩:=jQ (ats:=#[28,28]) (m:=[n]) (new:=[[.str n]]) h.bA rfl h.dA rfl (by decide) (jB h) rfl (ow.app [.cells 9 [.str n] true]) (mD rfl) (.one rfl) (eT (b:=1000) (by decide) (by simp only [length_cons,length_nil]; omega))
    simp only [KP,Ax.loadAt,↓reduceIte,reduceEqDiff,reduceLT,reduceLeDiff,reduceMul,h.dA,h.bA,g3,g11,g47,g48,g49,hlt2,e2,hlk,kJ,hap,hadd2]
    refine next2 _ _ (Iz (by simp +decide only [GS,g0,g3,g8,g37,g38,g39,g10,g47,g48,and_self]) ⟨fun c o hc=>sp' c o (aM (kp c o hc)) fun e=>absurd (List.getElem?_eq_some_iff.1 hc).1 (by have:=fr c e; omega),w',cur ++ [n],(by simp +decide only [GS]),ow',fun b hb=>?_,by rw [length_append,List.length_singleton]; omega,fun x hx=>?_,fun x=>?_⟩)
    ·rcases fr' b hb with g | g
     ·exact fr b g
     ·have h1:=(List.getElem?_eq_some_iff.1 (kp _ _ s1)).1
      have h2:τ1.length <= Y.length:=by
       refine Nat.le_of_not_lt fun hlt=>?_
       obtain ⟨o,ho⟩:∃ o,τ1[Y.length]? = some o:=⟨_,List.getElem?_eq_getElem hlt⟩
       exact absurd (List.getElem?_eq_some_iff.1 (kp _ _ ho)).1 (Nat.lt_irrefl _)
      simp only [length_append,length_cons,length_nil] at g
      omega
    ·rcases mem_append.1 hx with hx | hx
     ·exact hc40 x hx
     ·rw [mem_singleton.1 hx]; exact hP.short hsh
    ·rw [mem_append,hmem,hex,mem_singleton]
     constructor
     ·rintro ((h1 | h1) | rfl)
      ·exact .inl h1
      ·exact .inr (.inl h1)
      ·exact .inr (.inr hP)
     ·rintro (h1 | h1 | h1)
      ·exact .inl (.inl h1)
      ·exact .inl (.inr h1)
      ·exact .inr (hsh.jG s x n h1 hP)
  ·rintro F Y ⟨g0,g3,g8,g37,g38,g39,g10,g47,g48,g49,kp,w,cur,g11,ow,fr,hcl,hc40,hmem⟩
   rw [take_of_length_le (Nat.le_refl _)] at hmem
   have hlt2:=eE (Nat.lt_irrefl r.ins.length)
   obtain ⟨τ3,cur',hS,hperm,ow3,Mw,hln3⟩:=DU ow (by omega) (fun x hx=>by have:=hc40 x hx; omega)
   have ks:=dM (fun K=>show aB E 64 [w] Y K = K (.fV []) τ3 by rw [nJ h.N0,hS]; rfl)
   have kp3:Kp τ1 τ3:=fun c o hc=>Mw c o (kp c o hc) fun e=>absurd (List.getElem?_eq_some_iff.1 hc).1 (by have:=fr c e; omega)
   rw [aF]
   simp only [KP,↓reduceIte,reduceEqDiff,reduceLT,g11,g48,g49,hlt2,ks]
   refine rest (rs':=rs.take i) ow3 (by rw [hperm.length_eq]; omega) kp3 fr s1 hA1 ha1 hnn (fun x=>?_) _ ?_ ?_ ?_ _ _ ?_
   ·rw [hperm.mem_iff,hmem]; exact Iff.rfl
   ·exact (by simp +decide only [GS,g8])
   ·exact (by simp +decide only [GS,g10])
   ·exact (by simp +decide only [GS,g11])
   intro F' τ' es' hF hA' ha' hk'
   have q0:F'.get 0 = a:=(hF 0 (by simp)).trans (by simp +decide only [GS,g0])
   have q3:F'.get 3 = .mp 0:=(hF 3 (by simp)).trans (by simp +decide only [GS,g3])
   have q8:F'.get 8 = .mp mA:=(hF 8 (by simp)).trans (by simp +decide only [GS,g8])
   have q37:F'.get 37 = a:=(hF 37 (by simp)).trans (by simp +decide only [GS,g37])
   have q38:F'.get 38 = .int .i64 (rs.length:Int):=(hF 38 (by simp)).trans (by simp +decide only [GS,g38])
   have q39:F'.get 39 = .int .i64 (i:Int):=(hF 39 (by simp)).trans (by simp +decide only [GS,g39])
   simp only [KP,↓reduceIte,reduceLT,q39,hadd]
   refine next _ _ (CE (by simp +decide only [GS,q0,q3,q8,q37,q38,and_self]) ⟨hk' 0 _ hb1 (Ne.symm hmA),es',hA',?_⟩)
   rw [take_add_one,hr]
   exact ha'
 ·rintro F Y ⟨g0,g3,g8,g37,g38,g39,h0,es,hA,ha⟩
  rw [take_of_length_le (Nat.le_refl _)] at ha
  obtain ⟨es',e1,a1⟩:=MT h hA ha
  have hlt:=eE (Nat.lt_irrefl rs.length)
  rw [aF]
  simp only [KP,↓reduceIte,reduceEqDiff,reduceLT,g8,g38,g39,hlt,e1]
  exact ⟨es',rfl,a1⟩
theorem Q9 (h:bM E) {a:V} {rs:List aG} (ha:LS dW 37 Z a rs) (hs:∀ x ∈ rs,Small x) (hsh:Eh rs) (hl:rs.length <= 1000):aB E 147 [a] Z fun v σ'=>σ' = Z /\ ∃ es,v = .imp false es /\ AW (Nx rs) es rs:=by
 obtain ⟨a',ea,ia⟩:=eS h ha
 rw [aH h.W8 h.UC h.XS h.V9 (args':=[a']) (by simp only [aX,ea]),aZ (by kernel_rfl)]
 have key:=fun Y es0 get h0 hsm hmk F g0 g3=>VF (Y:=Y) (es0:=es0) (get:=get) h ia hs hsh hl h0 hsm hmk F g0 g3
 have k2:=fun F g0 g3 hk=>VG (K:=fun v σ1=>match cP σ1 E.ty false v with
   | some v=>∃ es,v = .imp false es /\ AW (Nx rs) es rs
   | none=>False) h ia hs (by omega) F g0 g3 hk
 rw [show (aA Tryz.f147).code = .seq (cutAt [0] (aA Tryz.f147).code) (.seq (cutAt [1,0] (aA Tryz.f147).code) (cutAt [1,1] (aA Tryz.f147).code)) from rfl]
 generalize cutAt [1,1] (aA Tryz.f147).code = C at k2 ⊢
 simp only [aA,Tryz.f147,KP,↓reduceIte,reduceLT,cutAt]
 refine k2 _ ?_ ?_ fun F' Y es get g0 g3 hb hsm hmk=>key Y es get hb hsm hmk F' g0 g3
 ·exact (by simp +decide only [GS])
 ·exact (by simp +decide only [GS])
end
end
section
section
variable {E:Env} {Z:Sg} {K:V -> Sg -> Prop}
theorem AW.back {N:aG -> aU -> Prop}:∀ {es:List (V × V)} {rs:List aG},AW N es rs -> nD es = true /\ es.map ks = rs.map aG.name /\ es.length = rs.length
 | _,_,.nil=>⟨rfl,rfl,rfl⟩
 | (a,v) :: es,r :: rs,.cons h t=>by
  obtain ⟨h1,l,h2,h3,-⟩:=h
  obtain ⟨i1,i2,i3⟩:=AW.back (N:=N) t
  dsimp only at h1 h2
  subst h1
  refine ⟨?_,?_,by rw [length_cons,length_cons,i3]⟩
  ·have hr:∀ l:List aU,tW (l.map fun s=>[V.str s]) = true:=fun l=>by
    induction l with
    | nil=>rfl
    | cons s l ih=>rw [map_cons,tW]; exact ih
   rcases h2 with ⟨rfl,-⟩ | ⟨full,rfl⟩
   ·rw [nD]; exact i1
   ·rw [nD,hr,length_map,Nat.ble_eq_true_of_le h3]; exact i1
  ·rw [map_cons,map_cons,i2]; rfl
theorem Af:∀ l:List aU,mI (l.map fun s=>[V.str s]) = l
 | []=>rfl
 | s :: l=>by rw [map_cons,mI,Af l]
theorem RH.list {v:V} {l:List aU} (h:RH v l):iB v = l:=by
 rcases h with ⟨rfl,rfl⟩ | ⟨full,rfl⟩
 ·rfl
 ·exact Af l
theorem xC:∀ {es:List (V × V)},iK es -> (es.map ks).Nodup -> gD es = true
 | [],_,_=>rfl
 | e :: es,ha,hn=>by
  obtain ⟨k,hk⟩:=ha _ (mem_cons_self ..)
  obtain ⟨a,v⟩:=e
  dsimp only at hk
  subst hk
  rw [map_cons,nodup_cons] at hn
  have hh:∀ {l:List (V × V)},iK l -> k ∉ l.map ks -> gD.hasKey k l = false:=by
   intro l
   induction l with
   | nil=>intro _ _; rfl
   | cons e l ih=>
    intro ha hk
    obtain ⟨q,hq⟩:=ha _ (mem_cons_self ..)
    obtain ⟨b,u⟩:=e
    dsimp only at hq
    subst hq
    rw [map_cons,mem_cons,not_or] at hk
    rw [gD.hasKey,show Ax.seq q k = false from jL.2 (fun e=>hk.1 e.symm)]
    exact ih (fun e he=>ha e (mem_cons_of_mem _ he)) hk.2
  rw [gD,hh (fun e he=>ha e (mem_cons_of_mem _ he)) hn.1]
  exact xC (fun e he=>ha e (mem_cons_of_mem _ he)) hn.2
structure NM (rs:List aG) (es:List (V × V)):Prop where
 ok:nD es = true
 keys:es.map ks = rs.map aG.name
 nodup:(es.map ks).Nodup
 nd:gD es = true
 len:es.length = rs.length
 next:∀ r ∈ rs,∀ x,x ∈ bO es r.name ↔ Nx rs r x
theorem AW.mem {N:aG -> aU -> Prop}:∀ {es:List (V × V)} {rs:List aG},AW N es rs -> ∀ r ∈ rs,∃ v l,(V.str r.name,v) ∈ es /\ RH v l /\ ∀ x,x ∈ l ↔ N r x
 | _,_,.nil,r,hr=>by cases hr
 | (a,v) :: es,q :: rs,.cons h t,r,hr=>by
  rcases mem_cons.1 hr with rfl | hr
  ·obtain ⟨h1,l,h2,h3,h4⟩:=h
   dsimp only at h1
   subst h1
   exact ⟨v,l,mem_cons_self ..,h2,h4⟩
  ·obtain ⟨v',l,h1,h2,h3⟩:=AW.mem (N:=N) t r hr
   exact ⟨v',l,mem_cons_of_mem _ h1,h2,h3⟩
theorem Ai:∀ {rs:List aG},(∀ (i j:Nat) (p q:aG),rs[i]? = some p -> rs[j]? = some q -> p.name = q.name -> i = j) -> (rs.map aG.name).Nodup
 | [],_=>List.Pairwise.nil
 | r :: rs,h=>by
  rw [map_cons,nodup_cons]
  refine ⟨fun hm=>?_,Ai fun i j p q hp hq e=>by
   have:=h (i + 1) (j + 1) p q hp hq e
   omega⟩
  obtain ⟨q,hq,e⟩:=mem_map.1 hm
  obtain ⟨j,hj⟩:=mem_iff_getElem?.1 hq
  have:=h 0 (j + 1) r q rfl hj e.symm
  omega
theorem VE {rs:List aG} {es:List (V × V)} (hsh:Eh rs) (h:AW (Nx rs) es rs):NM rs es:=by
 obtain ⟨h1,h2,h3⟩:=h.back
 have hn:(es.map ks).Nodup:=by rw [h2]; exact Ai hsh.nodup
 have hb:=wA h1
 refine ⟨h1,h2,hn,xC (fun e he=>(hb e he).1) hn,h3,fun r hr x=>?_⟩
 obtain ⟨v,l,hm,hv,hx⟩:=h.mem r hr
 rw [vS hb hn hm,hv.list]
 exact hx x
theorem AA {L:List (List (List Nat))}:∀ {l:List (List Nat)},iD L l = none ↔ ∀ a ∈ l,fI a L = none
 | []=>⟨fun _ a h=>(by cases h),fun _=>rfl⟩
 | a :: l=>by
  rw [iD]
  have ih:=AA (L:=L) (l:=l)
  cases hd:fI a L with
  | none=>
   dsimp only
   rw [ih]
   exact ⟨fun h x hx=>(mem_cons.1 hx).elim (fun e=>by rw [e]; exact hd) (h x),fun h x hx=>h x (mem_cons_of_mem _ hx)⟩
  | some d=>
   refine ⟨fun h=>?_,fun h=>?_⟩
   ·cases hb:iD L l with
    | none=>rw [hb] at h; cases h
    | some e=>
     rw [hb] at h
     dsimp only at h
     split at h <;> cases h
   ·have:=h a (mem_cons_self ..)
    rw [hd] at this; cases this
theorem Dy {es:List (V × V)} (hb:fT es) {f:List Nat}:∀ (k:Nat) (x:List Nat),C_ es f k x -> (∀ j,j < k -> ¬ C_ es f j x) -> ∃ ys:List (List Nat),ys.length = k /\ ys.Nodup /\ (∀ y ∈ ys,y ∈ es.map ks) /\ ∀ y ∈ ys,∃ j,1 <= j /\ j <= k /\ C_ es f j y /\ ∀ i,i < j -> ¬ C_ es f i y
 | 0,x,_,_=>⟨[],rfl,List.Pairwise.nil,fun _ h=>(by cases h),fun _ h=>(by cases h)⟩
 | k + 1,x,.succ (nx:=nx) hx hr,hm=>by
  have hmin:∀ j,j < k -> ¬ C_ es f j nx:=fun j hj h=>hm (j + 1) (by omega) (.succ hx h)
  obtain ⟨ys,h1,h2,h3,h4⟩:=Dy hb k nx hr hmin
  refine ⟨x :: ys,by rw [length_cons,h1],nodup_cons.2 ⟨fun hxy=>?_,h2⟩,fun y hy=>?_,fun y hy=>?_⟩
  ·obtain ⟨j,j1,j2,j3,j4⟩:=h4 x hxy
   exact hm j (by omega) j3
  ·rcases mem_cons.1 hy with rfl | hy
   ·obtain ⟨v,hv,-⟩:=BO hb hx
    exact mem_map.2 ⟨_,hv,rfl⟩
   ·exact h3 y hy
  ·rcases mem_cons.1 hy with rfl | hy
   ·exact ⟨k + 1,by omega,Nat.le_refl _,.succ hx hr,hm⟩
   ·obtain ⟨j,j1,j2,j3⟩:=h4 y hy
    exact ⟨j,j1,by omega,j3⟩
theorem M7 {es:List (V × V)} (hb:fT es) (hn:(es.map ks).Nodup) {f x:List Nat} {k:Nat} (h:C_ es f k x):∃ d,sK es f x = some d:=by
 have:∃ d,C_ es f d x /\ ∀ j,j < d -> ¬ C_ es f j x:=by
  induction k using Nat.strongRecOn with
  | _ k ih=>
   by_cases hex:∃ j,j < k /\ C_ es f j x
   ·obtain ⟨j,hj,hr⟩:=hex
    exact ih j hj hr
   ·exact ⟨k,h,fun j hj hr=>hex ⟨j,hj,hr⟩⟩
 obtain ⟨d,hr,hm⟩:=this
 obtain ⟨ys,h1,h2,h3,-⟩:=Dy hb d x hr hm
 have:=uB h2 h3
 rw [h1,length_map] at this
 exact ⟨d,(kT hb hn).2 ⟨this,hr,hm⟩⟩
theorem G3 {rs:List aG} {es:List (V × V)} (h:NM rs es) (f:aU):iD (dG es es.length [f]) (bO es f) ≠ none ↔ ∃ n,C_ es f (n + 1) f:=by
 have hb:=wA h.ok
 constructor
 ·intro hne
  have hne:∃ b,iD (dG es es.length [f]) (bO es f) = some b:=by
   cases he:iD (dG es es.length [f]) (bO es f) with
   | none=>exact absurd he hne
   | some b=>exact ⟨b,rfl⟩
  obtain ⟨b,hbo⟩:=hne
  obtain ⟨a,ha,hd⟩:=x_ _ _ _ hbo
  exact ⟨b,.succ ha ((kT hb h.nodup).1 hd).2.1⟩
 ·rintro ⟨n,hr⟩ hno
  cases hr with
  | succ hx hr=>
   obtain ⟨d,hd⟩:=M7 hb h.nodup hr
   have:=AA.1 hno _ hx
   rw [show fI _ (dG es es.length [f]) = some d from hd] at this
   cases this
end
end
section
section
variable {E:Env} {Z:Sg} {K:V -> Sg -> Prop}
theorem jI {α:Type} {p:α -> Bool}:∀ {l:List α} {k:Nat},bE p l = some k -> ∃ x,l[k]? = some x /\ p x = true
 | [],_,h=>by cases h
 | x :: l,k,h=>by
  rw [bE] at h
  by_cases hx:p x = true
  ·rw [if_pos hx] at h; cases h; exact ⟨x,rfl,hx⟩
  ·rw [if_neg hx] at h
   cases hf:bE p l with
   | none=>rw [hf] at h; cases h
   | some j=>
    rw [hf] at h
    cases h
    obtain ⟨y,h1,h2⟩:=jI hf
    exact ⟨y,h1,h2⟩
structure Good (rs:List aG):Prop where
 short:Eh rs
 known:∀ r ∈ rs,∀ n ∈ r.after,h_ rs n = true
 len:rs.length <= 40
 rule:∀ r ∈ rs,bB r = 0
theorem JC {s:aU} (h:bH s = true):s.length <= 40:=by
 unfold bH at h
 simp only [Bool.and_eq_true,decide_eq_true_eq] at h
 exact h.1.2
theorem A9 {rs:List aG} (h:gB rs = 0):Good rs:=by
 unfold gB at h
 cases hf:rs.find? (fun r=>decide (bB r ≠ 0)) with
 | some r=>
  rw [hf] at h
  have:=List.find?_some hf
  rw [decide_eq_true_eq] at this
  exact absurd h this
 | none=>
  rw [hf] at h
  dsimp only at h
  have hr:∀ r ∈ rs,bB r = 0:=fun r hr=>by
   have:=List.find?_eq_none.1 hf r hr
   simpa using this
  by_cases h40:40 < rs.length
  ·rw [if_pos h40] at h; cases h
  rw [if_neg h40] at h
  cases hc:rW rs with
  | true=>rw [if_pos hc] at h; cases h
  | false=>
  rw [if_neg (by rw [hc]; simp)] at h
  cases hst:gE rs with
  | true=>rw [if_pos hst] at h; cases h
  | false=>
  have hcl:∀ i r,rs[i]? = some r -> h_ (rs.take i) r.name = false /\ r.outs.any (uW (rs.take i)) = false:=fun i r hi=>by
   have:=List.any_eq_false.1 hc i (mem_range.2 (List.getElem?_eq_some_iff.1 hi).1)
   rw [CC hi] at this
   simpa using this
  have hform:∀ r ∈ rs,bH r.name = true /\ r.after.all bH = true:=fun r hm=>by
   have:=hr r hm
   unfold bB at this
   by_cases hfo:j_ r = false
   ·rw [if_pos hfo] at this; cases this
   ·have hfo:j_ r = true:=by simpa using hfo
    unfold j_ at hfo
    simp only [Bool.and_eq_true] at hfo
    exact ⟨hfo.1.1.1.1.1,hfo.1.2⟩
  have before:∀ (i j:Nat) (p:aG),j < i -> rs[j]? = some p -> p ∈ rs.take i:=fun i j p hji hj=>mem_of_getElem? (by rw [List.getElem?_take_of_lt hji]; exact hj)
  refine ⟨⟨fun r hm=>JC (hform r hm).1,fun r hm s hs=>JC (List.all_eq_true.1 (hform r hm).2 s hs),?_,?_⟩,fun r hm n hn=>?_,by omega,hr⟩
  ·have key:∀ (i j:Nat) (p q:aG),j < i -> rs[i]? = some p -> rs[j]? = some q -> p.name ≠ q.name:=fun i j p q hji hp hq e=>by
    have:=(hcl i p hp).1
    rw [show h_ (rs.take i) p.name = true from List.any_eq_true.2 ⟨q,before i j q hji hq,decide_eq_true e.symm⟩] at this
    cases this
   intro i j p q hp hq e
   rcases Nat.lt_trichotomy i j with g | g | g
   ·exact absurd e.symm (key j i q p g hq hp)
   ·exact g
   ·exact absurd e (key i j p q g hp hq)
  ·have key:∀ (i j:Nat) (p q:aG) (f:aU),j < i -> rs[i]? = some p -> rs[j]? = some q -> f ∈ p.outs -> f ∈ q.outs -> False:=fun i j p q f hji hp hq h1 h2=>by
    have:=(hcl i p hp).2
    rw [show p.outs.any (uW (rs.take i)) = true from List.any_eq_true.2 ⟨f,h1,List.any_eq_true.2 ⟨q,before i j q hji hq,decide_eq_true h2⟩⟩] at this
    cases this
   rintro f n m ⟨p,hp,h1,rfl⟩ ⟨q,hq,h2,rfl⟩
   obtain ⟨i,hi⟩:=mem_iff_getElem?.1 hp
   obtain ⟨j,hj⟩:=mem_iff_getElem?.1 hq
   rcases Nat.lt_trichotomy i j with g | g | g
   ·exact (key j i q p f g hj hi h2 h1).elim
   ·subst g
    rw [hi] at hj
    cases hj
    rfl
   ·exact (key i j p q f g hi hj h1 h2).elim
  ·have h1:=List.any_eq_false.1 hst r hm
   have h2:(r.after.any fun n=>decide (fO rs n = none)) = false:=by simpa using h1
   have h3:=List.any_eq_false.1 h2 n hn
   rw [sU] at h3
   simpa using h3
theorem BP {rs:List aG} {es:List (V × V)} (g:Good rs) (h:NM rs es) {i:Nat} {r:aG} (hi:rs[i]? = some r) (x:aU):x ∈ bO es r.name ↔ ∃ k q,iM rs false i k = true /\ rs[k]? = some q /\ q.name = x:=by
 have hm:=mem_of_getElem? hi
 rw [h.next r hm]
 have hd:∀ k,iM rs false i k = true ↔ (∃ f ∈ r.ins,fB rs f = some k) \/ ∃ n ∈ r.after,fO rs n = some k:=fun k=>by
  unfold iM xF
  rw [hi]
  simp only [Bool.not_false,Bool.true_and,Bool.or_eq_true,List.any_eq_true,decide_eq_true_eq]
 constructor
 ·rintro (hx | ⟨f,hf,hmk⟩)
  ·have hk:=g.known r hm x hx
   unfold h_ at hk
   rw [<- cC] at hk
   obtain ⟨k,hk⟩:=Option.isSome_iff_exists.1 hk
   obtain ⟨q,h1,h2⟩:=jI hk
   exact ⟨k,q,(hd k).2 (.inr ⟨x,hx,hk⟩),h1,of_decide_eq_true h2⟩
  ·obtain ⟨p,hp,hfp,rfl⟩:=hmk
   obtain ⟨k,hk⟩:=mU (p:=fun q:aG=>decide (f ∈ q.outs)) hp (decide_eq_true hfp)
   obtain ⟨q,h1,h2⟩:=jI hk
   exact ⟨k,q,(hd k).2 (.inl ⟨f,hf,hk⟩),h1,g.short.jG f _ _ ⟨q,mem_of_getElem? h1,of_decide_eq_true h2,rfl⟩ ⟨p,hp,hfp,rfl⟩⟩
 ·rintro ⟨k,q,hk,hq,rfl⟩
  rcases (hd k).1 hk with ⟨f,hf,h1⟩ | ⟨n,hn,h1⟩
  ·obtain ⟨q',h2,h3⟩:=jI h1
   rw [hq] at h2
   cases h2
   exact .inr ⟨f,hf,q,mem_of_getElem? hq,of_decide_eq_true h3,rfl⟩
  ·obtain ⟨q',h2,h3⟩:=jI h1
   rw [hq] at h2
   cases h2
   rw [of_decide_eq_true h3]
   exact .inl hn
theorem Pe {rs:List aG} {es:List (V × V)} (g:Good rs) (h:NM rs es) {i k:Nat} (hw:AxS.Way (iM rs false) i k):∀ {p q:aG},rs[i]? = some p -> rs[k]? = some q -> ∃ n,C_ es q.name (n + 1) p.name:=by
 induction hw with
 | one hm=>
  intro p q hp hq
  exact ⟨0,.succ ((BP g h hp _).2 ⟨_,q,hm,hq,rfl⟩) .zero⟩
 | @cons i j k hm _ ih=>
  intro p q hp hq
  have hj:∃ s,rs[j]? = some s:=by
   unfold iM at hm
   rw [hp] at hm
   unfold xF at hm
   simp only [Bool.or_eq_true,Bool.and_eq_true,List.any_eq_true,decide_eq_true_eq] at hm
   rcases hm with ⟨f,-,h1⟩ | ⟨-,n,-,h1⟩
   ·obtain ⟨s,h2,-⟩:=jI h1; exact ⟨s,h2⟩
   ·obtain ⟨s,h2,-⟩:=jI h1; exact ⟨s,h2⟩
  obtain ⟨s,hs⟩:=hj
  obtain ⟨n,hr⟩:=ih hs hq
  exact ⟨n + 1,.succ ((BP g h hp _).2 ⟨j,s,hm,hs,rfl⟩) hr⟩
theorem M6 {es:List (V × V)} {f x:List Nat} (h:C_ es f 0 x):x = f:=by cases h; rfl
theorem Jv {rs:List aG} {es:List (V × V)} (g:Good rs) (h:NM rs es) {k:Nat} {q:aG} (hq:rs[k]? = some q):∀ (n i:Nat) (p:aG),rs[i]? = some p -> C_ es q.name (n + 1) p.name -> AxS.Way (iM rs false) i k
 | n,i,p,hp,.succ (nx:=nx) hx hr=>by
  obtain ⟨j,s,hm,hs,rfl⟩:=(BP g h hp _).1 hx
  cases n with
  | zero=>
   have e:s.name = q.name:=M6 hr
   have:=g.short.nodup j k s q hs hq e
   subst this
   exact .one hm
  | succ n=>exact .cons hm (Jv g h hq n j s hs hr)
theorem FV {rs:List aG} {es:List (V × V)} (g:Good rs) (h:NM rs es):Ring rs ↔ ∃ r ∈ rs,iD (dG es es.length [r.name]) (bO es r.name) ≠ none:=by
 constructor
 ·rintro ⟨i,hi,hw⟩
  have hr:rs[i]? = some rs[i]:=List.getElem?_eq_getElem hi
  obtain ⟨n,hn⟩:=Pe g h hw hr hr
  exact ⟨_,mem_of_getElem? hr,(G3 h _).2 ⟨n,hn⟩⟩
 ·rintro ⟨r,hr,hb⟩
  obtain ⟨i,hi⟩:=mem_iff_getElem?.1 hr
  obtain ⟨n,hn⟩:=(G3 h _).1 hb
  exact ⟨i,(List.getElem?_eq_some_iff.1 hi).1,Jv g h hi n i r hi hn⟩
end
end
section
section
variable {E:Env} {Z:Sg} {K:V -> Sg -> Prop}
theorem LG {rs:List aG} {es:List (V × V)} (h:NM rs es) (hl:rs.length <= 1000) (g:Bool) (f:aU):nX [.imp g es,.str f] = some (nE es f):=by
 show (match nD es,gD es,Nat.ble es.length 1000000 with
  | true,true,true=>some (nE es f)
  | _,_,_=>none) = _
 rw [h.ok,h.nd,Nat.ble_eq_true_of_le (by rw [h.len]; omega)]
theorem CJ (es:List (V × V)) (f:aU):(iD (dG es es.length [f]) (bO es f) = none /\ nE es f = .aD) \/ (iD (dG es es.length [f]) (bO es f) ≠ none /\ ∃ l full,nE es f = .bR false ((f :: l).map fun s=>[V.str s]) full):=by
 unfold nE
 dsimp only
 cases iD (dG es es.length [f]) (bO es f) with
 | none=>exact .inl ⟨rfl,rfl⟩
 | some b=>exact .inr ⟨by simp,_,_,rfl⟩
theorem S5 (h:bM E) {rs:List aG} {es:List (V × V)} (hn:NM rs es) (hl:rs.length <= 1000) (g:Bool) (f:aU):aB E 148 [.imp g es,.str f] Z K = K (nE es f) Z:=by
 have h5:cP [] E.ty false (nE es f) = some (nE es f):=by
  rcases CJ es f with ⟨-,e⟩ | ⟨-,l,full,e⟩
  ·rw [e]; rfl
  ·rw [e]; exact Dm rfl rfl
 have hi:Ax.bD (.imp g es) = true:=rfl
 exact sN (args':=[.imp g es,.str f]) h.W7 h.UB (by simp only [aX,cZ,cO hi (b_ hi)]) (LG hn hl g f) h5
theorem Yx (h:bM E) {rs:List aG} {es:List (V × V)} {g:Bool} (hg:Good rs) (hn:NM rs es) {Y:Sg} {w:V} (ow:bF aK 9 Y w (rs.map aG.name)) (F:FT) (g5:F.get 5 = .imp g es) (g6:F.get 6 = w) :
  R E (cutAt [1,1,1,1,1] (aA Tryz.f109).code) [] ⟨48,F⟩ Y (mG E (aA Tryz.f109).results (fun v σ1=>match cP σ1 E.ty false v with
   | some v=>(v = .aD /\ ¬ Ring rs) \/ ∃ x l,kB aK v (x :: l) /\ Ring rs
   | none=>False)):=by
 have h40:=hg.len
 have hll:(rs.map aG.name).length <= 40:=by rw [length_map]; omega
 obtain ⟨τ3,ns,hS,hperm,ow3,-,-⟩:=DU ow (by omega) (fun x hx=>by
  obtain ⟨r,hr,rfl⟩:=mem_map.1 hx
  have:=hg.short.names r hr
  omega)
 have ks:=dM (fun K=>show aB E 64 [w] Y K = K (.fV []) τ3 by rw [nJ h.N0,hS]; rfl)
 have hnl:ns.length <= 40:=by rw [hperm.length_eq]; omega
 have lw:=pS h.bA rfl ow3.ls
 simp only [aA,Tryz.f109,KP,↓reduceIte,reduceEqDiff,reduceLT,cutAt,g6,ks,lw]
 refine aV (fun i F Y=>Y = τ3 /\ F.get 5 = .imp g es /\ F.get 35 = w /\ F.get 36 = .int .i64 (ns.length:Int) /\ F.get 37 = .int .i64 (i:Int) /\ ∀ (j:Nat) (x:aU),j < i -> ns[j]? = some x -> iD (dG es es.length [x]) (bO es x) = none) ns.length ?_ ?_ ns.length 0 _ _ (by omega) ⟨rfl,(gR (by simp +decide only [GS,g5,and_self]) (fun j x hj=>by omega))⟩
 ·rintro i F Y hi ⟨rfl,g5,g35,g36,g37,hp⟩ next
  obtain ⟨x,hx⟩:∃ y,ns[i]? = some y:=⟨_,List.getElem?_eq_getElem hi⟩
  obtain ⟨p,r,e4,e5,-,e6,-⟩:=G8 (Z:=Y) h.bA rfl h.dA rfl ow3.ls hx
  have e6:=e6 rfl (by decide)
  rw [show r = [.str x] from e5] at e6
  have e6:loadAt E Y 9 p = some (.str x):=e6
  have hlt:=eD hi
  have hadd:=bZ i (by omega)
  have kb:=fun (Z:Sg)=>dM (fun K=>S5 (Z:=Z) (K:=K) h hn (by omega) g x)
  have hxm:x ∈ rs.map aG.name:=hperm.mem_iff.1 (mem_of_getElem? hx)
  obtain ⟨q,hq,hqx⟩:=mem_map.1 hxm
  rw [aF]
  rcases CJ es x with ⟨hb,e⟩ | ⟨hb,l,full,e⟩
  ·simp only [KP,↓reduceIte,reduceEqDiff,reduceLT,g5,g35,g36,g37,hlt,e4,e6,kb,e,Cs h,hadd]
   refine next _ _ ⟨rfl,(gR (by simp +decide only [GS,g5,g35,g36,and_self]) (fun j y hj hy=>?_))⟩
   rcases Nat.lt_or_ge j i with gg | gg
   ·exact hp j y gg hy
   ·obtain rfl:j = i:=by omega
    rw [hx] at hy; cases hy; exact hb
  ·have hsn:∀ Z,cP Z E.ty false (.bR false ((x :: l).map fun s=>[V.str s]) full) = some (.bR false ((x :: l).map fun s=>[V.str s]) full):=fun Z=>Dm rfl rfl
   simp only [KP,↓reduceIte,reduceEqDiff,reduceLT,reduceCtorEq,g5,g35,g36,g37,hlt,e4,e6,kb,e,Cr h,hsn]
   exact .inr ⟨x,l,.inr ⟨_,full,rfl,zF _⟩,(FV hg hn).2 ⟨q,hq,by rw [hqx]; exact hb⟩⟩
 ·rintro F Y ⟨rfl,g5,g35,g36,g37,hp⟩
  have hlt:=eE (Nat.lt_irrefl ns.length)
  rw [aF]
  simp only [KP,↓reduceIte,reduceLT,g36,g37,hlt]
  refine .inl ⟨rfl,fun hr=>?_⟩
  obtain ⟨r,hr,hb⟩:=(FV hg hn).1 hr
  obtain ⟨j,hj⟩:=mem_iff_getElem?.1 (hperm.mem_iff.2 (mem_map.2 ⟨r,hr,rfl⟩))
  exact hb (hp j r.name (List.getElem?_eq_some_iff.1 hj).1 hj)
theorem OK (h:bM E) {a:V} {rs:List aG} (ha:LS dW 37 Z a rs) (hs:∀ x ∈ rs,Small x) (hp:gB rs = 0):aB E 109 [a] Z fun v σ'=>σ' = Z /\ ((v = .aD /\ ¬ Ring rs) \/ ∃ x l,kB aK v (x :: l) /\ Ring rs):=by
 obtain ⟨a',ea,ia⟩:=eS h ha
 have hg:=A9 hp
 have h40:=hg.len
 rw [aH h.Xh h.UM h.X2 h.Wi (args':=[a']) (by simp only [aX,ea]),aZ (by kernel_rfl)]
 have la:=cT h ia
 have key:=fun es g hn Y w ow F g5 g6=>Yx (E:=E) (rs:=rs) (es:=es) (g:=g) (Y:=Y) (w:=w) h hg hn ow F g5 g6
 rw [show (aA Tryz.f109).code = .seq (cutAt [0] (aA Tryz.f109).code) (.seq (cutAt [1,0] (aA Tryz.f109).code) (.seq (cutAt [1,1,0] (aA Tryz.f109).code) (.seq (cutAt [1,1,1,0] (aA Tryz.f109).code) (.seq (cutAt [1,1,1,1,0] (aA Tryz.f109).code) (cutAt [1,1,1,1,1] (aA Tryz.f109).code))))) from rfl]
 generalize cutAt [1,1,1,1,1] (aA Tryz.f109).code = C at key ⊢
 simp only [aA,Tryz.f109,KP,↓reduceIte,reduceLT,reduceCtorEq,cutAt]
 refine aN (Kf h (ia.ls _ 37) hs (by omega)) ?_
 rintro v σ' ⟨rfl,nm,rfl⟩
 rw [hp]
 simp only [KP,↓reduceIte,reduceEqDiff,reduceLT,reduceCtorEq]
 refine aN (Q9 h (ia.ls _ 37) hs hg.short (by omega)) ?_
 rintro v σ' ⟨rfl,es,rfl,hv⟩
 have hn:=VE hg.short hv
 simp only [KP,↓reduceIte,reduceLT,reduceCtorEq,la]
 refine aV (fun i F Y=>F.get 5 = .imp false es /\ F.get 21 = a' /\ F.get 22 = .int .i64 (rs.length:Int) /\ F.get 23 = .int .i64 (i:Int) /\ ∃ w,F.get 6 = w /\ bF aK 9 Y w ((rs.take i).map aG.name)) rs.length ?_ ?_ rs.length 0 _ _ (by omega) (gR (by simp +decide only [GS,and_self]) ⟨.aD,(by simp +decide only [GS]),.inl ⟨rfl,rfl⟩⟩)
 ·rintro i F Y hi ⟨g5,g21,g22,g23,w,g6,ow⟩ next
  obtain ⟨r,hr⟩:∃ y,rs[i]? = some y:=⟨_,List.getElem?_eq_getElem hi⟩
  obtain ⟨g,p1,p2,p3,p4,e1,i1,i2,i3,i4⟩:=fC h ia hr
  have o1:=aJ i1.bD
  have o2:=aJ i2.bD
  have o3:=aJ i3.bD
  have o4:=aJ i4.bD
  have hlt:=eD hi
  have hadd:=bZ i (by omega)
  have s1:(Y ++ [O.cells 37 [.str r.name,p1,p2,p3,p4] true])[Y.length]? = some (O.cells 37 [.str r.name,p1,p2,p3,p4] true):=aP
  have ow1:=ow.app [O.cells 37 [.str r.name,p1,p2,p3,p4] true]
  rw [aF]
  simp only [KP,Ax.loadAt,Ax.storeAt,↓reduceIte,reduceEqDiff,reduceLT,reduceLeDiff,reduceAdd,reduceMul,reduceCtorEq,h.dA,h.bA,h.bK,g6,g21,g22,g23,hlt,e1,o1,o2,o3,o4,aP,cL]
  generalize Y ++ [O.cells 37 [.str r.name,p1,p2,p3,p4] true] = τ1 at *
  generalize Y.length = y at *
  obtain ⟨w',τ',hap,ow',-,-,-⟩:=jQ (ats:=#[28,28]) (m:=[r.name]) (new:=[[.str r.name]]) h.bA rfl h.dA rfl (by decide) (jB h) rfl (ow1.app [.cells 9 [.str r.name] true]) (mD rfl) (.one rfl) (eT (b:=1000) (by decide) (by rw [length_map,length_take]; simp only [length_cons,length_nil]; omega))
  simp only [KP,↓reduceIte,reduceEqDiff,reduceLT,g23,kJ,hap,hadd]
  refine next _ _ (gR (by simp +decide only [GS,g5,g21,g22,and_self]) ⟨w',(by simp +decide only [GS]),?_⟩)
  rw [take_add_one,hr,List.map_append]
  exact ow'
 ·rintro F Y ⟨g5,g21,g22,g23,w,g6,ow⟩
  rw [take_of_length_le (Nat.le_refl _)] at ow
  have hlt:=eE (Nat.lt_irrefl rs.length)
  rw [aF]
  simp only [KP,↓reduceIte,reduceLT,g22,g23,hlt]
  exact key es false hn _ w ow _ (by simp +decide only [GS,g5]) (by simp +decide only [GS,g6])
theorem TL (h:bM E) {a:V} {rs:List aG} (ha:LS dW 37 Z a rs) (hs:∀ x ∈ rs,Small x) (hl:rs.length <= 4294967296):aB E 62 [a] Z fun v σ'=>σ' = Z /\ ∃ e nm,v = .fV [.int .i64 e,.str nm] /\ Hq rs e:=by
 obtain ⟨a',ea,ia⟩:=eS h ha
 rw [aH h.hs62 h.sp62 h.fn62 h.md62 (args':=[a']) (by simp only [aX,ea]),aZ (by kernel_rfl)]
 have d6:=h.Yn
 simp only [aA,Tryz.f62,cutAt,Option.getD_some] at d6
 simp only [aA,Tryz.f62,KP,↓reduceIte,reduceLT,reduceCtorEq,kU]
 refine aN (Kf h (ia.ls _ 37) hs hl) ?_
 rintro v σ' ⟨rfl,nm,rfl⟩
 by_cases hp:gB rs = 0
 case neg=>
  have q:=decide_eq_false hp
  simp only [KP,↓reduceIte,reduceEqDiff,reduceLT,q]
  exact ⟨gB rs,nm,rfl,.inl ⟨hp,rfl⟩⟩
 have q:=decide_eq_true hp
 simp only [KP,↓reduceIte,reduceEqDiff,reduceLT,reduceCtorEq,q]
 refine aN (OK h (ia.ls _ 37) hs hp) ?_
 rintro v σ' ⟨rfl,hv⟩
 rcases hv with ⟨rfl,hr⟩ | ⟨x,l,iv,hr⟩
 ·simp only [KP,↓reduceIte,reduceEqDiff,reduceLT,kU,Cs h]
  exact ⟨0,[],rfl,.inr ⟨hp,.inr ⟨hr,rfl⟩⟩⟩
 ·obtain ⟨g,e1⟩:=gC h iv.is (i:=0) (x:=x) rfl
  have e1:indexAddr E 28 v (.int .i64 0) = some (.dN g [.str x]):=e1
  have en:nC E 28 true v .aD = some false:=by
   rcases iv with ⟨-,e⟩ | ⟨rs',full,rfl,-⟩
   ·cases e
   ·exact Cr h
  simp only [KP,Ax.loadAt,↓reduceIte,reduceEqDiff,reduceLT,h.dA,en,e1,aW d6,bS]
  exact ⟨3,x,rfl,.inr ⟨hp,.inl ⟨hr,rfl⟩⟩⟩
end
end
structure OrE (E:Env):Prop where
 hs14:E.hspec 14 = none
 Pz:E.spec 14 = none
 fn14:E.fn 14 = some (aA Tryz.f14)
 md14:E.mode 14 = .eU
 hs66:E.hspec 66 = none
 sp66:E.spec 66 = none
 fn66:E.fn 66 = some (aA Tryz.f66)
 md66:E.mode 66 = .eU
 hs68:E.hspec 68 = none
 sp68:E.spec 68 = none
 fn68:E.fn 68 = some (aA Tryz.f68)
 md68:E.mode 68 = .eU
 hs15:E.hspec 15 = none
 Py:E.spec 15 = none
 fn15:E.fn 15 = some (aA Tryz.f15)
 md15:E.mode 15 = .eU
 hs69:E.hspec 69 = none
 sp69:E.spec 69 = none
 fn69:E.fn 69 = some (aA Tryz.f69)
 md69:E.mode 69 = .eU
 d14_15:aO E (cutAt [1,1,1,1,1,1,1,0,2,2,1,2,1,0] (aA Tryz.f14).code) = true
end Go.Proofs.YtlbbdpkjeeiahaaGreatDoor
end
