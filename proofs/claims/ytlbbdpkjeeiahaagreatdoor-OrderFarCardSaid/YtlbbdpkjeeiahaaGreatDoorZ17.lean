/- Part 17 of the proof. -/
import Derived.Test.YtlbbdpkjeeiahaaGreatDoorZ15
import Derived.Test.YtlbbdpkjeeiahaaGreatDoorZ16
import Derived.Test.YtlbbdpkjeeiahaaGreatDoorZ13
set_option maxHeartbeats 8000000
set_option linter.unusedVariables false
set_option maxRecDepth 10000
open Nat (reduceLT reduceAdd reduceEqDiff reduceLeDiff reduceMul)
open List (mem_of_getElem? length_take length_nil length_append length_cons take_of_length_le getElem?_set_ne take_add_one length_map getElem?_set_self mem_cons mem_singleton mem_cons_self mem_cons_of_mem mem_range append_assoc map_cons mem_map length_set mem_append mem_iff_getElem? nodup_cons)
open Int (reduceNeg)
section
namespace Go.Proofs.YtlbbdpkjeeiahaaGreatDoor
open Go Go.Ax Go.AxS
section
section
variable {E:Env} {Z:Sg} {K:V -> Sg -> Prop}
theorem rI {k:Nat} {caps:List V} (hc:∀ c ∈ caps,Ax.bE c = true) (Z:Sg):aV Z E.ty true (.fn k [] caps) = some (.fn k [] caps):=by
 have e:aW (aV.one Z E.ty true) caps = some caps:=iU fun c hx=>by
  have:=dG (Z:=Z) (ty:=E.ty) (g:=true) (hc c hx) (cE (hc c hx))
  have h2:=hc c hx
  cases c <;> first | exact this | cases h2
 simp only [aV,e,aW]
theorem RY (h:bK E) {a:V} {l:List aX} {k:Nat} {caps:List V} {P:aX -> Bool} (ha:LS aM 9 Z a l) (hsm:l.length <= 4294967296) (hc:∀ c ∈ caps,Ax.bE c = true) (hP:∀ (y:aX) (v:V),y ∈ l -> v = .str y -> aB E k ([v] ++ caps) [] fun u Y=>Y = [] /\ u = .bool (P y)) {fv:V} (ef:aV Z E.ty true fv = some (.fn k [] caps)):aB E 65 [a,fv] Z K = K (.int .i64 (idx (bQ P l))) Z:=by
 refine aB.of ?_
 obtain ⟨a',ea,ia⟩:=jQ h ha
 rw [aH h.hs65 h.sp65 h.fn65 h.md65 (args':=[a',.fn k [] caps]) (by simp only [aW,ea,ef]),aZ (by kernel_rfl)]
 have la:=bO h ia
 simp only [aA,Tryz.f65,KP,↓reduceIte,reduceLT,reduceAdd,reduceCtorEq,reduceNeg,la]
 refine aU (fun i F Y=>Y = [] /\ F.get 0 = a' /\ F.get 1 = .fn k [] caps /\ F.get 8 = .int .i64 (i:Int) /\ F.get 7 = .int .i64 (l.length:Int) /\ ∀ j y,j < i -> l[j]? = some y -> P y = false) l.length ?_ ?_ l.length 0 _ _ (by omega) ⟨rfl,(gY (by simp +decide only [GS,and_self]) (fun j y hj=>by omega))⟩
 ·rintro i F Y hi ⟨rfl,g0,g1,g8,g7,hp⟩ next
  obtain ⟨x,hx⟩:∃ x,l[i]? = some x:=⟨_,List.getElem?_eq_getElem hi⟩
  obtain ⟨g,e1⟩:=gG h ia hx
  have hv:V.str x = .str x:=rfl
  have hlt:=eE hi
  have hadd:=bY i (by omega)
  rw [aF]
  simp only [KP,Ax.loadAt,↓reduceIte,reduceEqDiff,reduceLT,reduceCtorEq,reduceNeg,h.c_,g0,g1,g7,g8,hlt,e1]
  refine aI (hP x _ (mem_of_getElem? hx) hv) ?_
  rintro u Y ⟨rfl,rfl⟩
  by_cases hxs:P x = true
  ·simp only [KP,↓reduceIte,reduceEqDiff,reduceLT,reduceNeg,hxs]
   rw [iM (i:=i) (x:=x) hp hx hxs]
   exact rfl
  ·have hxs:P x = false:=by simpa using hxs
   simp only [KP,↓reduceIte,reduceEqDiff,reduceLT,reduceNeg,g8,hxs,hadd]
   refine next _ _ ⟨rfl,(gY (by simp +decide only [GS,g0,g1,g7,and_self]) (fun j y hj hy=>?_))⟩
   rcases Nat.lt_or_ge j i with g | g
   ·exact hp j y g hy
   ·obtain rfl:j = i:=by omega
    rw [hx] at hy; cases hy; exact hxs
 ·rintro F Y ⟨rfl,g0,g1,g8,g7,hp⟩
  have hlt:=eF (Nat.lt_irrefl l.length)
  rw [aF]
  simp only [KP,↓reduceIte,reduceLT,reduceNeg,g7,g8,hlt]
  rw [iN fun x hx=>by
   obtain ⟨j,hj,e⟩:=List.getElem_of_mem hx
   exact hp j x hj (by rw [List.getElem?_eq_getElem hj,e])]
  exact rfl
theorem Ud (h:bK E) {a:V} {l:List aX} {k:Nat} {caps:List V} {P:aX -> Bool} (ha:LS aM 9 Z a l) (hsm:l.length <= 4294967296) (hc:∀ c ∈ caps,Ax.bE c = true) (hP:∀ (y:aX) (v:V),y ∈ l -> v = .str y -> aB E k ([v] ++ caps) [] fun u Y=>Y = [] /\ u = .bool (P y)):aB E 65 [a,.fn k [] caps] Z K = K (.int .i64 (idx (bQ P l))) Z:=RY h ha hsm hc hP (rI hc Z)
theorem qZ (h:bK E) {a:V} {l:List aX} {k:Nat} {caps:List V} {P:aX -> Bool} (ha:LS aM 9 Z a l) (hsm:l.length <= 4294967296) (hc:∀ c ∈ caps,Ax.bE c = true) (hP:∀ (y:aX) (v:V),y ∈ l -> v = .str y -> aB E k ([v] ++ caps) [] fun u Y=>Y = [] /\ u = .bool (P y)) {fv:V} (ef:aV Z E.ty true fv = some (.fn k [] caps)):aB E 67 [a,fv] Z K = K (.bool (l.any P)) Z:=by
 refine aB.of ?_
 obtain ⟨a',ea,ia⟩:=jQ h ha
 rw [aH h.hs67 h.sp67 h.fn67 h.md67 (args':=[a',.fn k [] caps]) (by simp only [aW,ea,ef]),aZ (by kernel_rfl)]
 have key:=fun K=>Ud (Z:=[]) (K:=K) h (ia.ls [] 9) hsm hc hP
 have kk:=dN key
 simp only [aA,Tryz.f67,KP,↓reduceIte,reduceEqDiff,reduceLT,reduceAdd,reduceCtorEq,kk,kR,cB]
 exact rfl
theorem KE (h:bK E) {a:V} {l:List aX} {k:Nat} {caps:List V} {P:aX -> Bool} (ha:LS aM 9 Z a l) (hsm:l.length <= 4294967296) (hc:∀ c ∈ caps,Ax.bE c = true) (hP:∀ (y:aX) (v:V),y ∈ l -> v = .str y -> aB E k ([v] ++ caps) [] fun u Y=>Y = [] /\ u = .bool (P y)):aB E 67 [a,.fn k [] caps] Z K = K (.bool (l.any P)) Z:=qZ h ha hsm hc hP (rI hc Z)
theorem Kh (h:bK E) {a:V} {l:List aX} {k:Nat} {caps:List V} {P:aX -> Bool} (ha:LS aM 9 Z a l) (hsm:l.length <= 4294967296) (hc:∀ c ∈ caps,Ax.bE c = true) (hP:∀ (y:aX) (v:V),y ∈ l -> v = .str y -> aB E k ([v] ++ caps) [] fun u Y=>Y = [] /\ u = .bool (P y)):KC E 67 [a,.fn k [] caps] Z (.bool (l.any P)) Z:=dN fun _=>KE h ha hsm hc hP
theorem Mj (h:bK E) {a:V} {l:List AxS.Step} {k:Nat} {caps:List V} {P:AxS.Step -> Bool} (ha:LS eX 75 Z a l) (hsm:l.length <= 4294967296) (hc:∀ c ∈ caps,Ax.bE c = true) (hP:∀ (y:AxS.Step) (v:V),y ∈ l -> Ms v y -> aB E k ([v] ++ caps) [] fun u Y=>Y = [] /\ u = .bool (P y)) {fv:V} (ef:aV Z E.ty true fv = some (.fn k [] caps)):aB E 237 [a,fv] Z K = K (.int .i64 (idx (bQ P l))) Z:=by
 refine aB.of ?_
 obtain ⟨a',ea,ia⟩:=BR h ha
 rw [aH h.Xs h.UW h.Yf h.Wv (args':=[a',.fn k [] caps]) (by simp only [aW,ea,ef]),aZ (by kernel_rfl)]
 have la:=kZ h ia
 simp only [aA,Tryz.f237,KP,↓reduceIte,reduceLT,reduceAdd,reduceCtorEq,reduceNeg,la]
 refine aU (fun i F Y=>Y = [] /\ F.get 0 = a' /\ F.get 1 = .fn k [] caps /\ F.get 8 = .int .i64 (i:Int) /\ F.get 7 = .int .i64 (l.length:Int) /\ ∀ j y,j < i -> l[j]? = some y -> P y = false) l.length ?_ ?_ l.length 0 _ _ (by omega) ⟨rfl,(gY (by simp +decide only [GS,and_self]) (fun j y hj=>by omega))⟩
 ·rintro i F Y hi ⟨rfl,g0,g1,g8,g7,hp⟩ next
  obtain ⟨x,hx⟩:∃ x,l[i]? = some x:=⟨_,List.getElem?_eq_getElem hi⟩
  obtain ⟨g,p1,p2,e1,i1,i2⟩:=uS h ia hx
  have hv:Ms (.agg [.str x.out,.int .i64 x.op,p1,p2,.int .i64 x.n]) x:=⟨p1,p2,rfl,i1,i2⟩
  have hlt:=eE hi
  have hadd:=bY i (by omega)
  rw [aF]
  simp only [KP,Ax.loadAt,↓reduceIte,reduceEqDiff,reduceLT,reduceAdd,reduceCtorEq,reduceNeg,h.cR,g0,g1,g7,g8,hlt,e1]
  refine aI (hP x _ (mem_of_getElem? hx) hv) ?_
  rintro u Y ⟨rfl,rfl⟩
  by_cases hxs:P x = true
  ·simp only [KP,↓reduceIte,reduceEqDiff,reduceLT,reduceNeg,hxs]
   rw [iM (i:=i) (x:=x) hp hx hxs]
   exact rfl
  ·have hxs:P x = false:=by simpa using hxs
   simp only [KP,↓reduceIte,reduceEqDiff,reduceLT,reduceNeg,g8,hxs,hadd]
   refine next _ _ ⟨rfl,(gY (by simp +decide only [GS,g0,g1,g7,and_self]) (fun j y hj hy=>?_))⟩
   rcases Nat.lt_or_ge j i with g | g
   ·exact hp j y g hy
   ·obtain rfl:j = i:=by omega
    rw [hx] at hy; cases hy; exact hxs
 ·rintro F Y ⟨rfl,g0,g1,g8,g7,hp⟩
  have hlt:=eF (Nat.lt_irrefl l.length)
  rw [aF]
  simp only [KP,↓reduceIte,reduceLT,reduceNeg,g7,g8,hlt]
  rw [iN fun x hx=>by
   obtain ⟨j,hj,e⟩:=List.getElem_of_mem hx
   exact hp j x hj (by rw [List.getElem?_eq_getElem hj,e])]
  exact rfl
theorem Pp (h:bK E) {a:V} {l:List AxS.Step} {k:Nat} {caps:List V} {P:AxS.Step -> Bool} (ha:LS eX 75 Z a l) (hsm:l.length <= 4294967296) (hc:∀ c ∈ caps,Ax.bE c = true) (hP:∀ (y:AxS.Step) (v:V),y ∈ l -> Ms v y -> aB E k ([v] ++ caps) [] fun u Y=>Y = [] /\ u = .bool (P y)):aB E 237 [a,.fn k [] caps] Z K = K (.int .i64 (idx (bQ P l))) Z:=Mj h ha hsm hc hP (rI hc Z)
theorem I9 (h:bK E) {a:V} {l:List AxS.Step} {k:Nat} {caps:List V} {P:AxS.Step -> Bool} (ha:LS eX 75 Z a l) (hsm:l.length <= 4294967296) (hc:∀ c ∈ caps,Ax.bE c = true) (hP:∀ (y:AxS.Step) (v:V),y ∈ l -> Ms v y -> aB E k ([v] ++ caps) [] fun u Y=>Y = [] /\ u = .bool (P y)) {fv:V} (ef:aV Z E.ty true fv = some (.fn k [] caps)):aB E 200 [a,fv] Z K = K (.bool (l.any P)) Z:=by
 refine aB.of ?_
 obtain ⟨a',ea,ia⟩:=BR h ha
 rw [aH h.Xz h.U3 h.Ym h.WC (args':=[a',.fn k [] caps]) (by simp only [aW,ea,ef]),aZ (by kernel_rfl)]
 have key:=fun K=>Pp (Z:=[]) (K:=K) h (ia.ls [] 75) hsm hc hP
 have kk:=dN key
 simp only [aA,Tryz.f200,KP,↓reduceIte,reduceEqDiff,reduceLT,reduceAdd,reduceCtorEq,kk,kR,cB]
 exact rfl
theorem Ml (h:bK E) {a:V} {l:List AxS.Step} {k:Nat} {caps:List V} {P:AxS.Step -> Bool} (ha:LS eX 75 Z a l) (hsm:l.length <= 4294967296) (hc:∀ c ∈ caps,Ax.bE c = true) (hP:∀ (y:AxS.Step) (v:V),y ∈ l -> Ms v y -> aB E k ([v] ++ caps) [] fun u Y=>Y = [] /\ u = .bool (P y)):aB E 200 [a,.fn k [] caps] Z K = K (.bool (l.any P)) Z:=I9 h ha hsm hc hP (rI hc Z)
theorem LJ (h:bK E) {a:V} {l:List AxS.Step} {k:Nat} {caps:List V} {P:AxS.Step -> Bool} (ha:LS eX 75 Z a l) (hsm:l.length <= 4294967296) (hc:∀ c ∈ caps,Ax.bE c = true) (hP:∀ (y:AxS.Step) (v:V),y ∈ l -> Ms v y -> aB E k ([v] ++ caps) [] fun u Y=>Y = [] /\ u = .bool (P y)):KC E 200 [a,.fn k [] caps] Z (.bool (l.any P)) Z:=dN fun _=>Ml h ha hsm hc hP
theorem Zi (h:bK E) {a:V} {l:List aX} {s:aX} (ha:LS aM 9 Z a l) (hsm:l.length <= 4294967296):aB E 131 [a,.str s] Z K = K (.int .i64 (idx (bQ (fun x=>decide (x = s)) l))) Z:=by
 refine aB.of ?_
 obtain ⟨a',ea,ia⟩:=jQ h ha
 rw [aH h.XP h.Vi h.YA h.WS (args':=[a',.str s]) (by simp only [aW,ea,dA]),aZ (by kernel_rfl)]
 have la:=bO h ia
 simp only [aA,Tryz.f131,KP,↓reduceIte,reduceLT,reduceAdd,reduceCtorEq,reduceNeg,la]
 refine aU (fun i F Y=>Y = [] /\ F.get 0 = a' /\ F.get 1 = .str s /\ F.get 8 = .int .i64 (i:Int) /\ F.get 7 = .int .i64 (l.length:Int) /\ ∀ j y,j < i -> l[j]? = some y -> y ≠ s) l.length ?_ ?_ l.length 0 _ _ (by omega) ⟨rfl,(gY (by simp +decide only [GS,and_self]) (fun j y hj=>by omega))⟩
 ·rintro i F Y hi ⟨rfl,g0,g1,g8,g7,hp⟩ next
  obtain ⟨x,hx⟩:∃ x,l[i]? = some x:=⟨_,List.getElem?_eq_getElem hi⟩
  obtain ⟨g,e1⟩:=gG h ia hx
  have hlt:=eE hi
  have hadd:=bY i (by omega)
  rw [aF]
  by_cases hxs:x = s
  ·have hs:=iA hxs.symm
   simp only [KP,Ax.loadAt,↓reduceIte,reduceEqDiff,reduceLT,reduceCtorEq,reduceNeg,h.c_,g0,g1,g7,g8,hlt,e1,hs]
   rw [iM (i:=i) (x:=x) (fun j y hj hy=>decide_eq_false (hp j y hj hy)) hx (decide_eq_true hxs)]
   exact rfl
  ·have hs:=f_ (Ne.symm hxs)
   simp only [KP,Ax.loadAt,↓reduceIte,reduceEqDiff,reduceLT,reduceCtorEq,reduceNeg,h.c_,g0,g1,g7,g8,hlt,e1,hs,hadd]
   refine next _ _ ⟨rfl,(gY (by simp +decide only [GS,g0,g1,g7,and_self]) (fun j y hj hy=>?_))⟩
   rcases Nat.lt_or_ge j i with g | g
   ·exact hp j y g hy
   ·obtain rfl:j = i:=by omega
    rw [hx] at hy; cases hy; exact hxs
 ·rintro F Y ⟨rfl,g0,g1,g8,g7,hp⟩
  have hlt:=eF (Nat.lt_irrefl l.length)
  rw [aF]
  simp only [KP,↓reduceIte,reduceLT,reduceNeg,g7,g8,hlt]
  rw [iN fun x hx=>by
   obtain ⟨j,hj,e⟩:=List.getElem_of_mem hx
   exact decide_eq_false (hp j x hj (by rw [List.getElem?_eq_getElem hj,e]))]
  exact rfl
theorem Ui (h:bK E) {a:V} {l:List aX} {s:aX} (ha:LS aM 9 Z a l) (hsm:l.length <= 4294967296):aB E 92 [a,.str s] Z K = K (.bool (decide (s ∈ l))) Z:=by
 refine aB.of ?_
 obtain ⟨a',ea,ia⟩:=jQ h ha
 rw [aH h.hs92 h.sp92 h.fn92 h.md92 (args':=[a',.str s]) (by simp only [aW,ea,dA]),aZ (by kernel_rfl)]
 have kk:=dN (fun K=>Zi (Z:=[]) (s:=s) (K:=K) h (ia.ls [] 9) hsm)
 simp only [aA,Tryz.f92,KP,↓reduceIte,reduceEqDiff,reduceLT,reduceAdd,reduceCtorEq,kk,kR,cB,any_eq]
 exact rfl
theorem Cy (h:bK E) {a:V} {l:List aX} {s:aX} (ha:LS aM 9 Z a l) (hsm:l.length <= 4294967296):KC E 92 [a,.str s] Z (.bool (decide (s ∈ l))) Z:=dN fun _=>Ui h ha hsm
end
end
section
section
variable {E:Env} {Z:Sg} {K:V -> Sg -> Prop}
theorem T8 (h:bK E) {c:Nat}:aB E 253 [.int .i32 (c:Int)] Z K = K (.bool (sign c)) Z:=by
 refine aB.of ?_
 rw [aH h.Xp h.US h.Yc h.Ws (args':=[.int .i32 (c:Int)]) (by simp only [aW,show aV Z E.ty true (.int .i32 (c:Int)) = some (.int .i32 (c:Int)) from rfl]),aZ (by kernel_rfl)]
 have hcut:(0 <= c /\ c <= 44) \/ (45 <= c /\ c <= 45) \/ (46 <= c /\ c <= 46) \/ (47 <= c /\ c <= 47) \/ (48 <= c /\ c <= 57) \/ (58 <= c /\ c <= 64) \/ (65 <= c /\ c <= 90) \/ (91 <= c /\ c <= 94) \/ (95 <= c /\ c <= 95) \/ (96 <= c /\ c <= 96) \/ (97 <= c /\ c <= 122) \/ (123 <= c /\ 123 <= c):=by omega
 rcases hcut with ⟨h1,h2⟩ | ⟨h1,h2⟩ | ⟨h1,h2⟩ | ⟨h1,h2⟩ | ⟨h1,h2⟩ | ⟨h1,h2⟩ | ⟨h1,h2⟩ | ⟨h1,h2⟩ | ⟨h1,h2⟩ | ⟨h1,h2⟩ | ⟨h1,h2⟩ | ⟨h1,h2⟩
 ·rw [show sign c = false from by unfold sign; simp; omega]
  have q0:decide ((97:Int) <= (c:Int)) = false:=decide_eq_false (by omega)
  have q2:decide ((65:Int) <= (c:Int)) = false:=decide_eq_false (by omega)
  have q4:decide ((48:Int) <= (c:Int)) = false:=decide_eq_false (by omega)
  have q6:decide ((c:Int) = 46) = false:=decide_eq_false (by omega)
  have q7:decide ((c:Int) = 95) = false:=decide_eq_false (by omega)
  have q8:decide ((c:Int) = 45) = false:=decide_eq_false (by omega)
  simp only [aA,Tryz.f253,KP,↓reduceIte,reduceEqDiff,reduceLT,reduceCtorEq,q0,q2,q4,q6,q7,q8]
  exact rfl
 ·rw [show sign c = true from by unfold sign; simp; omega]
  have q0:decide ((97:Int) <= (c:Int)) = false:=decide_eq_false (by omega)
  have q2:decide ((65:Int) <= (c:Int)) = false:=decide_eq_false (by omega)
  have q4:decide ((48:Int) <= (c:Int)) = false:=decide_eq_false (by omega)
  have q6:decide ((c:Int) = 46) = false:=decide_eq_false (by omega)
  have q7:decide ((c:Int) = 95) = false:=decide_eq_false (by omega)
  have q8:decide ((c:Int) = 45) = true:=decide_eq_true (by omega)
  simp only [aA,Tryz.f253,KP,↓reduceIte,reduceEqDiff,reduceLT,reduceCtorEq,q0,q2,q4,q6,q7,q8]
  exact rfl
 ·rw [show sign c = true from by unfold sign; simp; omega]
  have q0:decide ((97:Int) <= (c:Int)) = false:=decide_eq_false (by omega)
  have q2:decide ((65:Int) <= (c:Int)) = false:=decide_eq_false (by omega)
  have q4:decide ((48:Int) <= (c:Int)) = false:=decide_eq_false (by omega)
  have q6:decide ((c:Int) = 46) = true:=decide_eq_true (by omega)
  simp only [aA,Tryz.f253,KP,↓reduceIte,reduceEqDiff,reduceLT,reduceCtorEq,q0,q2,q4,q6]
  exact rfl
 ·rw [show sign c = false from by unfold sign; simp; omega]
  have q0:decide ((97:Int) <= (c:Int)) = false:=decide_eq_false (by omega)
  have q2:decide ((65:Int) <= (c:Int)) = false:=decide_eq_false (by omega)
  have q4:decide ((48:Int) <= (c:Int)) = false:=decide_eq_false (by omega)
  have q6:decide ((c:Int) = 46) = false:=decide_eq_false (by omega)
  have q7:decide ((c:Int) = 95) = false:=decide_eq_false (by omega)
  have q8:decide ((c:Int) = 45) = false:=decide_eq_false (by omega)
  simp only [aA,Tryz.f253,KP,↓reduceIte,reduceEqDiff,reduceLT,reduceCtorEq,q0,q2,q4,q6,q7,q8]
  exact rfl
 ·rw [show sign c = true from by unfold sign; simp; omega]
  have q0:decide ((97:Int) <= (c:Int)) = false:=decide_eq_false (by omega)
  have q2:decide ((65:Int) <= (c:Int)) = false:=decide_eq_false (by omega)
  have q4:decide ((48:Int) <= (c:Int)) = true:=decide_eq_true (by omega)
  have q5:decide ((c:Int) <= 57) = true:=decide_eq_true (by omega)
  simp only [aA,Tryz.f253,KP,↓reduceIte,reduceEqDiff,reduceLT,reduceCtorEq,q0,q2,q4,q5]
  exact rfl
 ·rw [show sign c = false from by unfold sign; simp; omega]
  have q0:decide ((97:Int) <= (c:Int)) = false:=decide_eq_false (by omega)
  have q2:decide ((65:Int) <= (c:Int)) = false:=decide_eq_false (by omega)
  have q4:decide ((48:Int) <= (c:Int)) = true:=decide_eq_true (by omega)
  have q5:decide ((c:Int) <= 57) = false:=decide_eq_false (by omega)
  have q6:decide ((c:Int) = 46) = false:=decide_eq_false (by omega)
  have q7:decide ((c:Int) = 95) = false:=decide_eq_false (by omega)
  have q8:decide ((c:Int) = 45) = false:=decide_eq_false (by omega)
  simp only [aA,Tryz.f253,KP,↓reduceIte,reduceEqDiff,reduceLT,reduceCtorEq,q0,q2,q4,q5,q6,q7,q8]
  exact rfl
 ·rw [show sign c = true from by unfold sign; simp; omega]
  have q0:decide ((97:Int) <= (c:Int)) = false:=decide_eq_false (by omega)
  have q2:decide ((65:Int) <= (c:Int)) = true:=decide_eq_true (by omega)
  have q3:decide ((c:Int) <= 90) = true:=decide_eq_true (by omega)
  simp only [aA,Tryz.f253,KP,↓reduceIte,reduceEqDiff,reduceLT,reduceCtorEq,q0,q2,q3]
  exact rfl
 ·rw [show sign c = false from by unfold sign; simp; omega]
  have q0:decide ((97:Int) <= (c:Int)) = false:=decide_eq_false (by omega)
  have q2:decide ((65:Int) <= (c:Int)) = true:=decide_eq_true (by omega)
  have q3:decide ((c:Int) <= 90) = false:=decide_eq_false (by omega)
  have q4:decide ((48:Int) <= (c:Int)) = true:=decide_eq_true (by omega)
  have q5:decide ((c:Int) <= 57) = false:=decide_eq_false (by omega)
  have q6:decide ((c:Int) = 46) = false:=decide_eq_false (by omega)
  have q7:decide ((c:Int) = 95) = false:=decide_eq_false (by omega)
  have q8:decide ((c:Int) = 45) = false:=decide_eq_false (by omega)
  simp only [aA,Tryz.f253,KP,↓reduceIte,reduceEqDiff,reduceLT,reduceCtorEq,q0,q2,q3,q4,q5,q6,q7,q8]
  exact rfl
 ·rw [show sign c = true from by unfold sign; simp; omega]
  have q0:decide ((97:Int) <= (c:Int)) = false:=decide_eq_false (by omega)
  have q2:decide ((65:Int) <= (c:Int)) = true:=decide_eq_true (by omega)
  have q3:decide ((c:Int) <= 90) = false:=decide_eq_false (by omega)
  have q4:decide ((48:Int) <= (c:Int)) = true:=decide_eq_true (by omega)
  have q5:decide ((c:Int) <= 57) = false:=decide_eq_false (by omega)
  have q6:decide ((c:Int) = 46) = false:=decide_eq_false (by omega)
  have q7:decide ((c:Int) = 95) = true:=decide_eq_true (by omega)
  simp only [aA,Tryz.f253,KP,↓reduceIte,reduceEqDiff,reduceLT,reduceCtorEq,q0,q2,q3,q4,q5,q6,q7]
  exact rfl
 ·rw [show sign c = false from by unfold sign; simp; omega]
  have q0:decide ((97:Int) <= (c:Int)) = false:=decide_eq_false (by omega)
  have q2:decide ((65:Int) <= (c:Int)) = true:=decide_eq_true (by omega)
  have q3:decide ((c:Int) <= 90) = false:=decide_eq_false (by omega)
  have q4:decide ((48:Int) <= (c:Int)) = true:=decide_eq_true (by omega)
  have q5:decide ((c:Int) <= 57) = false:=decide_eq_false (by omega)
  have q6:decide ((c:Int) = 46) = false:=decide_eq_false (by omega)
  have q7:decide ((c:Int) = 95) = false:=decide_eq_false (by omega)
  have q8:decide ((c:Int) = 45) = false:=decide_eq_false (by omega)
  simp only [aA,Tryz.f253,KP,↓reduceIte,reduceEqDiff,reduceLT,reduceCtorEq,q0,q2,q3,q4,q5,q6,q7,q8]
  exact rfl
 ·rw [show sign c = true from by unfold sign; simp; omega]
  have q0:decide ((97:Int) <= (c:Int)) = true:=decide_eq_true (by omega)
  have q1:decide ((c:Int) <= 122) = true:=decide_eq_true (by omega)
  simp only [aA,Tryz.f253,KP,↓reduceIte,reduceEqDiff,reduceLT,reduceCtorEq,q0,q1]
  exact rfl
 ·rw [show sign c = false from by unfold sign; simp; omega]
  have q0:decide ((97:Int) <= (c:Int)) = true:=decide_eq_true (by omega)
  have q1:decide ((c:Int) <= 122) = false:=decide_eq_false (by omega)
  have q2:decide ((65:Int) <= (c:Int)) = true:=decide_eq_true (by omega)
  have q3:decide ((c:Int) <= 90) = false:=decide_eq_false (by omega)
  have q4:decide ((48:Int) <= (c:Int)) = true:=decide_eq_true (by omega)
  have q5:decide ((c:Int) <= 57) = false:=decide_eq_false (by omega)
  have q6:decide ((c:Int) = 46) = false:=decide_eq_false (by omega)
  have q7:decide ((c:Int) = 95) = false:=decide_eq_false (by omega)
  have q8:decide ((c:Int) = 45) = false:=decide_eq_false (by omega)
  simp only [aA,Tryz.f253,KP,↓reduceIte,reduceEqDiff,reduceLT,reduceCtorEq,q0,q1,q2,q3,q4,q5,q6,q7,q8]
  exact rfl
theorem Tv (h:bK E) {c:Nat}:KC E 253 [.int .i32 (c:Int)] Z (.bool (sign c)) Z:=dN fun _=>T8 h
theorem Mf (h:bK E) {c:Nat}:aB E 252 [.int .i32 (c:Int)] Z K = K (.bool (!sign c)) Z:=by
 refine aB.of ?_
 rw [aH h.Xq h.UT h.Yd h.Wt (args':=[.int .i32 (c:Int)]) (by simp only [aW,show aV Z E.ty true (.int .i32 (c:Int)) = some (.int .i32 (c:Int)) from rfl]),aZ (by kernel_rfl)]
 have ks:=fun (Y:Sg)=>Tv (Z:=Y) h (c:=c)
 simp only [aA,Tryz.f252,KP,↓reduceIte,reduceLT,reduceCtorEq,ks]
 exact rfl
theorem byte_at {s:aX} {pos ch:Nat} (hc:s[pos]? = some ch) (h:ch < 256):((rE s).get! pos).toNat = ch:=by
 show ((s.map UInt8.ofNat).toArray[pos]!).toNat = ch
 have e:(s.map UInt8.ofNat).toArray[pos]? = some (UInt8.ofNat ch):=by simp [hc]
 rw [getElem!_def,e]
 simp only [UInt8.toNat_ofNat']
 omega
theorem Qd {s:aX} {pos ch:Nat} (hc:s[pos]? = some ch) (h1:¬ ch < 128) (h2:ch < 256):128 <= (Utf8.decode (rE s) pos).1:=by
 unfold Utf8.decode
 simp only [Nat.add_zero,byte_at hc h2,h1,if_false]
 repeat' split
 all_goals first
  | (simp only [Utf8.runeError]; omega)
  | (simp only [Bool.and_eq_true,beq_iff_eq,decide_eq_true_eq,ge_iff_le] at *; omega)
theorem Gz {c:Nat} (h:128 <= c):sign c = false:=by
 unfold sign; simp; omega
theorem IW (h:bK E):oA E 4 false (.bool true) (.bool true) = some true:=by unfold oA; rw [h.DB]; rfl
theorem TP (h:bK E):oA E 4 false (.bool false) (.bool true) = some false:=by unfold oA; rw [h.DB]; rfl
theorem b_xF (h:bK E) {s:aX} {k:Nat} {P:Nat -> Bool} (hsm:s.length <= 4294967296) (hP:∀ (Z:Sg) (r:Nat),aB E k [.int .i32 (r:Int)] Z fun u Y=>Y = Z /\ u = .bool (P r)) (hhi:∀ r,128 <= r -> P r = true):aB E 308 [.str s,.fn k [] [],.bool true] Z fun v Y=>Y = Z /\ ∃ n:Int,v = .int .i64 n /\ decide (0 <= n) = s.any P:=by
 have ef:=rI (E:=E) (k:=k) (caps:=[]) (fun _ h=>by cases h) Z
 rw [aH h.Xn h.UQ h.Ya h.Wq (args':=[.str s,.fn k [] [],.bool true]) (by simp only [aW,dA,ef,show aV Z E.ty true (.bool true) = some (.bool true) from rfl]),aZ (by kernel_rfl)]
 simp only [aA,Tryz.f308,KP,↓reduceIte,reduceLT,reduceAdd,reduceCtorEq,reduceNeg,h.c_,oJ]
 refine aU (fun i F Y=>Y = [.HP s i] /\ F.get 1 = .fn k [] [] /\ F.get 2 = .bool true /\ F.get 10 = .ref 0 0 /\ ∀ j y,j < i -> s[j]? = some y -> P y = false) s.length ?_ ?_ s.length 0 _ _ (by omega) ⟨rfl,(gD (by simp +decide only [GS,and_self]) (fun j y hj=>by omega))⟩
 ·rintro i F Y hi ⟨rfl,g1,g2,g10,hp⟩ next
  obtain ⟨x,hx⟩:∃ x,s[i]? = some x:=⟨_,List.getElem?_eq_getElem hi⟩
  rw [aF]
  by_cases h128:x < 128
  ·simp only [KP,↓reduceIte,reduceEqDiff,reduceLT,reduceNeg,g1,g10,vH,hx,h128]
   refine aI (hP _ x) ?_
   rintro u Y ⟨rfl,rfl⟩
   by_cases hxs:P x = true
   ·simp only [KP,↓reduceIte,reduceEqDiff,reduceLT,reduceNeg,g2,hxs,IW h]
    exact ⟨_,rfl,by rw [show s.any P = true from List.any_eq_true.2 ⟨x,mem_of_getElem? hx,hxs⟩]; exact decide_eq_true (by omega)⟩
   ·have hxs:P x = false:=by simpa using hxs
    simp only [KP,↓reduceIte,reduceEqDiff,reduceLT,reduceNeg,g2,hxs,TP h]
    refine next _ _ ⟨rfl,(gD (by simp +decide only [GS,g1,g2,g10,and_self]) (fun j y hj hy=>?_))⟩
    rcases Nat.lt_or_ge j i with g | g
    ·exact hp j y g hy
    ·obtain rfl:j = i:=by omega
     rw [hx] at hy; cases hy; exact hxs
  have hany:s.any P = true:=List.any_eq_true.2 ⟨x,mem_of_getElem? hx,hhi x (by omega)⟩
  by_cases h256:x < 256
  ·simp only [KP,↓reduceIte,reduceEqDiff,reduceLT,reduceNeg,g1,g10,vH,hx,h128,h256]
   refine aI (hP _ (Utf8.decode (rE s) i).1) ?_
   rintro u Y ⟨rfl,rfl⟩
   have hxs:=hhi _ (Qd hx h128 h256)
   simp only [KP,↓reduceIte,reduceEqDiff,reduceLT,reduceNeg,g2,hxs,IW h]
   exact ⟨_,rfl,by rw [hany]; exact decide_eq_true (by omega)⟩
  ·simp only [KP,↓reduceIte,reduceEqDiff,reduceLT,reduceNeg,g1,g10,vH,hx,h128,h256]
   refine aI (hP _ 65533) ?_
   rintro u Y ⟨rfl,rfl⟩
   have hxs:=hhi _ (show 128 <= 65533 by omega)
   simp only [KP,↓reduceIte,reduceEqDiff,reduceLT,reduceNeg,g2,hxs,IW h]
   exact ⟨_,rfl,by rw [hany]; exact decide_eq_true (by omega)⟩
 ·rintro F Y ⟨rfl,g1,g2,g10,hp⟩
  have hx:s[s.length]? = none:=List.getElem?_eq_none (Nat.le_refl _)
  rw [aF]
  simp only [KP,↓reduceIte,reduceLT,reduceNeg,g10,vH,hx]
  refine ⟨-1,rfl,?_⟩
  rw [show s.any P = false from List.any_eq_false.2 fun x hx=>by
   obtain ⟨j,hj,e⟩:=List.getElem_of_mem hx
   rw [hp j x hj (by rw [List.getElem?_eq_getElem hj,e])]; simp]
  rfl
theorem Uc (h:bK E) {s:aX} {k:Nat} {P:Nat -> Bool} (hsm:s.length <= 4294967296) (hP:∀ (Z:Sg) (r:Nat),aB E k [.int .i32 (r:Int)] Z fun u Y=>Y = Z /\ u = .bool (P r)) (hhi:∀ r,128 <= r -> P r = true):aB E 287 [.str s,.fn k [] []] Z fun v Y=>Y = Z /\ ∃ n:Int,v = .int .i64 n /\ decide (0 <= n) = s.any P:=by
 have ef:=rI (E:=E) (k:=k) (caps:=[]) (fun _ h=>by cases h) Z
 rw [aH h.Xo h.UR h.Yb h.Wr (args':=[.str s,.fn k [] []]) (by simp only [aW,dA,ef]),aZ (by kernel_rfl)]
 simp only [aA,Tryz.f287,KP,↓reduceIte,reduceEqDiff,reduceLT,reduceAdd,reduceCtorEq]
 refine aI (b_xF h hsm hP hhi) ?_
 rintro v Y ⟨rfl,n,rfl,hn⟩
 simp only [KP,↓reduceIte,reduceLT]
 exact ⟨n,rfl,hn⟩
theorem RZ (h:bK E) {s:aX} {k:Nat} {P:Nat -> Bool} (hsm:s.length <= 4294967296) (hP:∀ (Z:Sg) (r:Nat),aB E k [.int .i32 (r:Int)] Z fun u Y=>Y = Z /\ u = .bool (P r)) (hhi:∀ r,128 <= r -> P r = true):aB E 251 [.str s,.fn k [] []] Z K = K (.bool (s.any P)) Z:=by
 refine aB.of ?_
 have ef:=rI (E:=E) (k:=k) (caps:=[]) (fun _ h=>by cases h) Z
 rw [aH h.Xr h.UU h.Ye h.Wu (args':=[.str s,.fn k [] []]) (by simp only [aW,dA,ef]),aZ (by kernel_rfl)]
 simp only [aA,Tryz.f251,KP,↓reduceIte,reduceEqDiff,reduceLT,reduceAdd,reduceCtorEq]
 refine aI (Uc h hsm hP hhi) ?_
 rintro v Y ⟨rfl,n,rfl,hn⟩
 simp only [KP,↓reduceIte,reduceLT,hn]
 exact rfl
theorem Zg (h:bK E) {p:aX} (hsm:p.length <= 4294967296):aB E 224 [.str p] Z K = K (.bool (!rL p)) Z:=by
 refine aB.of ?_
 rw [aH h.Xt h.UX h.Yg h.Ww (args':=[.str p]) (by simp only [aW,dA]),aZ (by kernel_rfl)]
 by_cases h1:p = []
 ·have q1:=iA h1
  simp only [aA,Tryz.f224,KP,↓reduceIte,reduceEqDiff,reduceLT,reduceCtorEq,kV,q1]
  rw [zJ (.inl h1)]
  exact rfl
 have q1:=f_ h1
 by_cases h2:p = [46]
 ·have q2:=iA h2
  simp only [aA,Tryz.f224,KP,↓reduceIte,reduceEqDiff,reduceLT,reduceCtorEq,kV,L1,q1,q2]
  rw [zJ (.inr (.inl h2))]
  exact rfl
 have q2:=f_ h2
 by_cases h3:p = [46,46]
 ·have q3:=iA h3
  simp only [aA,Tryz.f224,KP,↓reduceIte,reduceEqDiff,reduceLT,reduceCtorEq,kV,L1,RD,q1,q2,q3]
  rw [zJ (.inr (.inr h3))]
  exact rfl
 have q3:=f_ h3
 have kc:=fun (Y:Sg)=>dN (fun K=>RZ (Z:=Y) (K:=K) (s:=p) (k:=252) (P:=fun c=>!sign c) h hsm (fun Y r=>by rw [Mf h]; exact ⟨rfl,rfl⟩) (fun r hr=>by rw [Gz hr]; rfl))
 simp only [aA,Tryz.f224,KP,↓reduceIte,reduceEqDiff,reduceLT,reduceCtorEq,kV,L1,RD,q1,q2,q3,kc]
 rw [It h1 h2 h3,List.not_all_eq_any_not]
 exact rfl
theorem zS:∀ l:List aX,eS aM.P (l.map fun p=>[V.str p]) l
 | []=>.nil
 | _ :: l=>.cons rfl (zS l)
theorem Pn (h:bK E) {s:aX} (hsm:s.length <= 1000000000):aB E 223 [.str s] Z fun v Y=>Y = Z /\ kE aM v (cG 47 s):=by
 rw [aH h.Xu h.UY h.Yh h.Wx (args':=[.str s]) (by simp only [aW,dA]),aZ (by kernel_rfl)]
 have hs:kY [.str s,.str [47]] = some (.bL false ((cG 47 s).map fun p=>[V.str p]) true):=by
  unfold kY
  exact if_pos (by omega)
 have iv:kE aM (.bL false ((cG 47 s).map fun p=>[V.str p]) true) (cG 47 s):=.inr ⟨_,_,rfl,zS _⟩
 have h5:∀ Z,cP Z E.ty false (.bL false ((cG 47 s).map fun p=>[V.str p]) true) = some (.bL false ((cG 47 s).map fun p=>[V.str p]) true):=fun Z=>(show cP Z E.ty false (.bL false ((cG 47 s).map fun p=>[V.str p]) true) = aV Z E.ty false (.bL false ((cG 47 s).map fun p=>[V.str p]) true) from rfl).trans (dG iv.is.bE iv.tag)
 have kc:=fun (Y:Sg)=>dN (fun K=>sZ (Z:=Y) (K:=K) (args:=[.str s,.str [47]]) (args':=[.str s,.str [47]]) h.XE h.U8 (by simp only [aW,dA]) hs (h5 []))
 have hb:Ax.bytes ⟨#[47]⟩ = [47]:=rfl
 simp only [aA,Tryz.f223,KP,↓reduceIte,reduceLT,reduceCtorEq,kc,h5,hb]
 exact iv
theorem E9 {s:aX} (h:¬ s.length <= 40):bH s = false:=by unfold bH; rw [decide_eq_false h]; simp
theorem pI {s:aX} (h:oE s = true):bH s = false:=by unfold bH; rw [h]; rfl
theorem Zh (h:bK E) {s:aX}:aB E 186 [.str s] Z K = K (.bool (bH s)) Z:=by
 refine aB.of ?_
 rw [aH h.XB h.U5 h.Yo h.WE (args':=[.str s]) (by simp only [aW,dA]),aZ (by kernel_rfl)]
 by_cases w0:s = [114,117,108,101]
 ·have e0:=iA w0
  simp only [aA,Tryz.f186,KP,↓reduceIte,reduceLT,reduceCtorEq,CX,e0]
  rw [pI (by rw [w0]; rfl)]
  exact rfl
 have e0:=f_ w0
 by_cases w1:s = [105,110]
 ·have e1:=iA w1
  simp only [aA,Tryz.f186,KP,↓reduceIte,reduceEqDiff,reduceLT,reduceCtorEq,CX,Fw,e0,e1]
  rw [pI (by rw [w1]; rfl)]
  exact rfl
 have e1:=f_ w1
 by_cases w2:s = [111,117,116]
 ·have e2:=iA w2
  simp only [aA,Tryz.f186,KP,↓reduceIte,reduceEqDiff,reduceLT,reduceCtorEq,CX,Fw,IZ,e0,e1,e2]
  rw [pI (by rw [w2]; rfl)]
  exact rfl
 have e2:=f_ w2
 by_cases w3:s = [97,102,116,101,114]
 ·have e3:=iA w3
  simp only [aA,Tryz.f186,KP,↓reduceIte,reduceEqDiff,reduceLT,reduceCtorEq,CX,Fw,IZ,OY,e0,e1,e2,e3]
  rw [pI (by rw [w3]; rfl)]
  exact rfl
 have e3:=f_ w3
 by_cases h40:s.length <= 40
 case neg=>
  have q1:decide ((s.length:Int) <= 40) = false:=decide_eq_false (by omega)
  rw [E9 h40]
  simp only [aA,Tryz.f186,KP,↓reduceIte,reduceEqDiff,reduceLT,reduceCtorEq,fJ h,CX,Fw,IZ,OY,e0,e1,e2,e3,q1]
  exact rfl
 have q1:decide ((s.length:Int) <= 40) = true:=decide_eq_true (by omega)
 have hr:oE s = false:=by unfold oE; rw [decide_eq_false w0,decide_eq_false w1,decide_eq_false w2,decide_eq_false w3]; rfl
 rw [N9 hr h40]
 simp only [aA,Tryz.f186,KP,↓reduceIte,reduceEqDiff,reduceLT,reduceCtorEq,fJ h,CX,Fw,IZ,OY,e0,e1,e2,e3,q1]
 refine aI (Pn h (by omega)) ?_
 rintro v σ' ⟨rfl,hv⟩
 have hPl:=rH 47 s
 have hPp:=tG (s:=s) rfl
 generalize cG 47 s = P at *
 have kc:=fun (Y:Sg)=>Kh (Z:=Y) (k:=224) (caps:=[]) (P:=fun p=>!rL p) h (hv.is.ls Y 9) (by omega) (fun _ h=>by cases h) (fun y v hy hv=>by
  subst hv
  have:=hPp y hy
  show aB E 224 [.str y] [] _
  rw [Zg h (by omega)]; exact ⟨rfl,rfl⟩)
 simp only [KP,↓reduceIte,reduceEqDiff,reduceLT,kc]
 rw [<- List.not_all_eq_any_not,Bool.not_not]
 exact rfl
theorem Xg (h:bK E) {s:aX}:KC E 186 [.str s] Z (.bool (bH s)) Z:=dN fun _=>Zh h
end
end
section
section
variable {E:Env} {Z:Sg} {K:V -> Sg -> Prop}
theorem Pj (h:bK E) {p:Int}:aB E 169 [.int .i64 p] Z K = K (.fZ [.int .i64 ((counts p).1:Nat),.int .i64 ((counts p).2.1:Nat),.int .i64 ((counts p).2.2:Nat)]) Z:=by
 refine aB.of ?_
 rw [aH h.XG h.U_ h.Ys h.WJ (args':=[.int .i64 p]) (by simp only [aW,show aV Z E.ty true (.int .i64 p) = some (.int .i64 p) from rfl]),aZ (by kernel_rfl)]
 by_cases p5:p = 5
 ·have q5:decide (p = 5) = true:=decide_eq_true p5
  simp only [aA,Tryz.f169,KP,↓reduceIte,reduceEqDiff,reduceLT,reduceCtorEq,q5]
  rw [p5]
  exact rfl
 have q5:decide (p = 5) = false:=decide_eq_false p5
 by_cases p6:p = 6
 ·have q6:decide (p = 6) = true:=decide_eq_true p6
  simp only [aA,Tryz.f169,KP,↓reduceIte,reduceEqDiff,reduceLT,reduceCtorEq,q5,q6]
  rw [p6]
  exact rfl
 have q6:decide (p = 6) = false:=decide_eq_false p6
 by_cases p7:p = 7
 ·have q7:decide (p = 7) = true:=decide_eq_true p7
  simp only [aA,Tryz.f169,KP,↓reduceIte,reduceEqDiff,reduceLT,reduceCtorEq,q5,q6,q7]
  rw [p7]
  exact rfl
 have q7:decide (p = 7) = false:=decide_eq_false p7
 by_cases p8:p = 8
 ·have q8:decide (p = 8) = true:=decide_eq_true p8
  simp only [aA,Tryz.f169,KP,↓reduceIte,reduceEqDiff,reduceLT,reduceCtorEq,q5,q6,q7,q8]
  rw [p8]
  exact rfl
 have q8:decide (p = 8) = false:=decide_eq_false p8
 have e:counts p = (1,1,0):=by unfold counts; rw [if_neg p5,if_neg p6,if_neg p7,if_neg p8]
 rw [e]
 simp only [aA,Tryz.f169,KP,↓reduceIte,reduceEqDiff,reduceLT,reduceCtorEq,q5,q6,q7,q8]
 exact rfl
theorem OA (h:bK E) {p:Int}:KC E 169 [.int .i64 p] Z (.fZ [.int .i64 ((counts p).1:Nat),.int .i64 ((counts p).2.1:Nat),.int .i64 ((counts p).2.2:Nat)]) Z:=dN fun _=>Pj h
theorem Mg (h:bK E) {s:aX}:aB E 170 [.str s] Z K = K (.bool (decide (100 < s.length))) Z:=by
 refine aB.of ?_
 rw [aH h.XF h.U9 h.Yr h.WI (args':=[.str s]) (by simp only [aW,dA]),aZ (by kernel_rfl)]
 simp only [aA,Tryz.f170,KP,↓reduceIte,reduceLT,reduceCtorEq,fJ h]
 rw [show decide ((100:Int) < (s.length:Int)) = decide (100 < s.length) from by rw [decide_eq_decide]; omega]
 exact rfl
theorem GH {x:AxS.Step}:cA x = true ↔ ((1 <= x.op /\ x.op <= 9) /\ ((counts x.op).1 <= x.args.length /\ x.args.length <= (counts x.op).2.1)) /\ x.lits.length = (counts x.op).2.2 /\ (x.lits.any fun l=>decide (100 < l.length)) = false /\ (x.op = 8 -> x.lits.head? ≠ some []) /\ (0 <= x.n /\ x.n <= 2000) /\ (x.op = 9 \/ x.n = 0):=by
 have e:x.lits.all (fun l=>decide (l.length <= 100)) = !(x.lits.any fun l=>decide (100 < l.length)):=by
  rw [List.not_any_eq_all_not]
  congr 1
  funext l
  rw [<- decide_not,decide_eq_decide]
  omega
 unfold cA
 rw [e]
 simp only [Bool.and_eq_true,decide_eq_true_eq,and_assoc,Bool.not_eq_true']
theorem qI {x:AxS.Step} (h:¬ (cA x = true)):cA x = false:=by simpa using h
theorem Md (h:bK E) {v:V} {x:AxS.Step} (hv:Ms v x) (hsm:x.lits.length <= 4294967296):aB E 125 [v] Z K = K (.bool (cA x)) Z:=by
 refine aB.of ?_
 have ev:=hv.snap (E:=E) Z
 obtain ⟨a,b,rfl,ia,ib⟩:=hv
 have hoka:a.a_ = true:=aL ia.bE
 have hokb:b.a_ = true:=aL ib.bE
 rw [aH h.XQ h.Vj h.YB h.WT (args':=[.agg [.str x.out,.int .i64 x.op,a,b,.int .i64 x.n]]) (by simp only [aW,ev]),aZ (by kernel_rfl)]
 have la:=bO h ia
 have lb:=bO h ib
 have hm:=GH (x:=x)
 have kc:=fun (Y:Sg)=>OA (Z:=Y) h (p:=x.op)
 have kl:=fun (Y:Sg)=>Kh (Z:=Y) (k:=170) (caps:=[]) (P:=fun l=>decide (100 < l.length)) h (ib.ls Y 9) hsm (fun _ h=>by cases h) (fun y v hy hv=>by
  subst hv
  show aB E 170 [.str y] [] _
  rw [Mg h]; exact ⟨rfl,rfl⟩)
 have h8:x.op = 8 -> (counts x.op).2.2 = 2:=fun e=>by rw [e]; rfl
 generalize (counts x.op).1 = A at *
 generalize (counts x.op).2.1 = B at *
 generalize (counts x.op).2.2 = C at *
 by_cases p1:1 <= x.op
 case neg=>
  have q1:decide (x.op < 1) = true:=decide_eq_true (by omega)
  rw [qI (mt hm.1 fun hh=>by omega)]
  simp only [aA,Tryz.f125,KP,Ax.loadAt,↓reduceIte,reduceEqDiff,reduceLT,reduceAdd,reduceCtorEq,h.qA,h.cR,kc,hoka,hokb,q1]
  exact rfl
 have q1:decide (x.op < 1) = false:=decide_eq_false (by omega)
 by_cases p2:x.op <= 9
 case neg=>
  have q2:decide ((9:Int) < x.op) = true:=decide_eq_true (by omega)
  rw [qI (mt hm.1 fun hh=>by omega)]
  simp only [aA,Tryz.f125,KP,Ax.loadAt,↓reduceIte,reduceEqDiff,reduceLT,reduceAdd,reduceCtorEq,h.qA,h.cR,kc,hoka,hokb,q1,q2]
  exact rfl
 have q2:decide ((9:Int) < x.op) = false:=decide_eq_false (by omega)
 by_cases p3:A <= x.args.length
 case neg=>
  have q3:decide ((x.args.length:Int) < (A:Int)) = true:=decide_eq_true (by omega)
  rw [qI (mt hm.1 fun hh=>by omega)]
  simp only [aA,Tryz.f125,KP,Ax.loadAt,↓reduceIte,reduceEqDiff,reduceLT,reduceAdd,reduceCtorEq,h.qA,h.bB,h.cR,kc,la,hoka,hokb,q1,q2,q3]
  exact rfl
 have q3:decide ((x.args.length:Int) < (A:Int)) = false:=decide_eq_false (by omega)
 by_cases p4:x.args.length <= B
 case neg=>
  have q4:decide ((B:Int) < (x.args.length:Int)) = true:=decide_eq_true (by omega)
  rw [qI (mt hm.1 fun hh=>by omega)]
  simp only [aA,Tryz.f125,KP,Ax.loadAt,↓reduceIte,reduceEqDiff,reduceLT,reduceAdd,reduceCtorEq,h.qA,h.bB,h.cR,kc,la,hoka,hokb,q1,q2,q3,q4]
  exact rfl
 have q4:decide ((B:Int) < (x.args.length:Int)) = false:=decide_eq_false (by omega)
 by_cases p5:x.lits.length = C
 case neg=>
  have q5:decide ((x.lits.length:Int) = (C:Int)) = false:=decide_eq_false (by omega)
  rw [qI (mt hm.1 fun hh=>by omega)]
  simp only [aA,Tryz.f125,KP,Ax.loadAt,↓reduceIte,reduceEqDiff,reduceLT,reduceAdd,reduceCtorEq,h.qA,h.bB,h.cR,kc,la,lb,hoka,hokb,q1,q2,q3,q4,q5]
  exact rfl
 have q5:decide ((x.lits.length:Int) = (C:Int)) = true:=decide_eq_true (by omega)
 by_cases p6:(x.lits.any fun l=>decide (100 < l.length)) = true
 ·rw [qI (mt hm.1 fun hh=>by rw [p6] at hh; simp at hh)]
  simp only [aA,Tryz.f125,KP,Ax.loadAt,↓reduceIte,reduceEqDiff,reduceLT,reduceAdd,reduceCtorEq,h.qA,h.bB,h.cR,kc,kl,la,lb,hoka,hokb,q1,q2,q3,q4,q5,p6]
  exact rfl
 have q6:(x.lits.any fun l=>decide (100 < l.length)) = false:=by simpa using p6
 by_cases p8:x.op = 8
 ·have q8:decide (x.op = 8) = true:=decide_eq_true p8
  have hC:=h8 p8
  obtain ⟨y,r,hyr⟩:=List.exists_cons_of_ne_nil (show x.lits ≠ [] from fun e=>by rw [e] at p5; simp at p5; omega)
  obtain ⟨g,e1⟩:=gG h ib (i:=0) (x:=y) (by rw [hyr]; rfl)
  have e1:indexAddr E 28 b (.int .i64 0) = some (.dU g [.str y]):=e1
  by_cases hy:y = []
  ·have e2:=iA hy
   rw [qI (mt hm.1 fun hh=>hh.2.2.2.1 p8 (by rw [hyr,hy]; rfl))]
   simp only [aA,Tryz.f125,KP,Ax.loadAt,↓reduceIte,reduceEqDiff,reduceLT,reduceAdd,reduceCtorEq,h.qA,h.c_,h.bB,h.cR,kV,kc,kl,la,lb,hoka,hokb,q1,q2,q3,q4,q5,q6,q8,e1,e2]
   exact rfl
  have e2:=f_ hy
  have hh8:x.op = 8 -> x.lits.head? ≠ some []:=fun _=>by rw [hyr]; simpa using hy
  by_cases p9:0 <= x.n
  case neg=>
   have q9:decide (x.n < 0) = true:=decide_eq_true (by omega)
   rw [qI (mt hm.1 fun hh=>by omega)]
   simp only [aA,Tryz.f125,KP,Ax.loadAt,↓reduceIte,reduceEqDiff,reduceLT,reduceAdd,reduceCtorEq,h.qA,h.c_,h.bB,h.cR,kV,kc,kl,la,lb,hoka,hokb,q1,q2,q3,q4,q5,q6,q8,e1,e2,q9]
   exact rfl
  have q9:decide (x.n < 0) = false:=decide_eq_false (by omega)
  by_cases p10:x.n <= 2000
  case neg=>
   have FL:decide ((2000:Int) < x.n) = true:=decide_eq_true (by omega)
   rw [qI (mt hm.1 fun hh=>by omega)]
   simp only [aA,Tryz.f125,KP,Ax.loadAt,↓reduceIte,reduceEqDiff,reduceLT,reduceAdd,reduceCtorEq,h.qA,h.c_,h.bB,h.cR,kV,kc,kl,la,lb,hoka,hokb,q1,q2,q3,q4,q5,q6,q8,e1,e2,q9,FL]
   exact rfl
  have FL:decide ((2000:Int) < x.n) = false:=decide_eq_false (by omega)
  by_cases p11:x.op = 9
  ·have HR:decide (x.op = 9) = true:=decide_eq_true p11
   rw [hm.2 ⟨⟨⟨p1,p2⟩,p3,p4⟩,p5,q6,hh8,⟨p9,p10⟩,.inl p11⟩]
   simp only [aA,Tryz.f125,KP,Ax.loadAt,↓reduceIte,reduceEqDiff,reduceLT,reduceAdd,reduceCtorEq,h.qA,h.c_,h.bB,h.cR,kV,kc,kl,la,lb,hoka,hokb,q1,q2,q3,q4,q5,q6,q8,e1,e2,q9,FL,HR]
   exact rfl
  have HR:decide (x.op = 9) = false:=decide_eq_false p11
  by_cases p12:x.n = 0
  case neg=>
   have Mu:decide (x.n = 0) = false:=decide_eq_false (by omega)
   rw [qI (mt hm.1 fun hh=>by omega)]
   simp only [aA,Tryz.f125,KP,Ax.loadAt,↓reduceIte,reduceEqDiff,reduceLT,reduceAdd,reduceCtorEq,h.qA,h.c_,h.bB,h.cR,kV,kc,kl,la,lb,hoka,hokb,q1,q2,q3,q4,q5,q6,q8,e1,e2,q9,FL,HR,Mu]
   exact rfl
  have Mu:decide (x.n = 0) = true:=decide_eq_true (by omega)
  rw [hm.2 ⟨⟨⟨p1,p2⟩,p3,p4⟩,p5,q6,hh8,⟨p9,p10⟩,.inr p12⟩]
  simp only [aA,Tryz.f125,KP,Ax.loadAt,↓reduceIte,reduceEqDiff,reduceLT,reduceAdd,reduceCtorEq,h.qA,h.c_,h.bB,h.cR,kV,kc,kl,la,lb,hoka,hokb,q1,q2,q3,q4,q5,q6,q8,e1,e2,q9,FL,HR,Mu]
  exact rfl
 ·have q8:decide (x.op = 8) = false:=decide_eq_false p8
  have hh8:x.op = 8 -> x.lits.head? ≠ some []:=fun e=>absurd e p8
  by_cases p9:0 <= x.n
  case neg=>
   have q9:decide (x.n < 0) = true:=decide_eq_true (by omega)
   rw [qI (mt hm.1 fun hh=>by omega)]
   simp only [aA,Tryz.f125,KP,Ax.loadAt,↓reduceIte,reduceEqDiff,reduceLT,reduceAdd,reduceCtorEq,h.qA,h.bB,h.cR,kc,kl,la,lb,hoka,hokb,q1,q2,q3,q4,q5,q6,q8,q9]
   exact rfl
  have q9:decide (x.n < 0) = false:=decide_eq_false (by omega)
  by_cases p10:x.n <= 2000
  case neg=>
   have FL:decide ((2000:Int) < x.n) = true:=decide_eq_true (by omega)
   rw [qI (mt hm.1 fun hh=>by omega)]
   simp only [aA,Tryz.f125,KP,Ax.loadAt,↓reduceIte,reduceEqDiff,reduceLT,reduceAdd,reduceCtorEq,h.qA,h.bB,h.cR,kc,kl,la,lb,hoka,hokb,q1,q2,q3,q4,q5,q6,q8,q9,FL]
   exact rfl
  have FL:decide ((2000:Int) < x.n) = false:=decide_eq_false (by omega)
  by_cases p11:x.op = 9
  ·have HR:decide (x.op = 9) = true:=decide_eq_true p11
   rw [hm.2 ⟨⟨⟨p1,p2⟩,p3,p4⟩,p5,q6,hh8,⟨p9,p10⟩,.inl p11⟩]
   simp only [aA,Tryz.f125,KP,Ax.loadAt,↓reduceIte,reduceEqDiff,reduceLT,reduceAdd,reduceCtorEq,h.qA,h.bB,h.cR,kc,kl,la,lb,hoka,hokb,q1,q2,q3,q4,q5,q6,q8,q9,FL,HR]
   exact rfl
  have HR:decide (x.op = 9) = false:=decide_eq_false p11
  by_cases p12:x.n = 0
  case neg=>
   have Mu:decide (x.n = 0) = false:=decide_eq_false (by omega)
   rw [qI (mt hm.1 fun hh=>by omega)]
   simp only [aA,Tryz.f125,KP,Ax.loadAt,↓reduceIte,reduceEqDiff,reduceLT,reduceAdd,reduceCtorEq,h.qA,h.bB,h.cR,kc,kl,la,lb,hoka,hokb,q1,q2,q3,q4,q5,q6,q8,q9,FL,HR,Mu]
   exact rfl
  have Mu:decide (x.n = 0) = true:=decide_eq_true (by omega)
  rw [hm.2 ⟨⟨⟨p1,p2⟩,p3,p4⟩,p5,q6,hh8,⟨p9,p10⟩,.inr p12⟩]
  simp only [aA,Tryz.f125,KP,Ax.loadAt,↓reduceIte,reduceEqDiff,reduceLT,reduceAdd,reduceCtorEq,h.qA,h.bB,h.cR,kc,kl,la,lb,hoka,hokb,q1,q2,q3,q4,q5,q6,q8,q9,FL,HR,Mu]
  exact rfl
theorem LB (h:bK E) {v:V} {x:AxS.Step} (hv:Ms v x) (hsm:x.lits.length <= 4294967296):KC E 125 [v] Z (.bool (cA x)) Z:=dN fun _=>Md h hv hsm
end
end
section
section
variable {E:Env} {Z:Sg} {K:V -> Sg -> Prop}
theorem Ew (h:bK E) {s:aX}:aB E 199 [.str s] Z K = K (.bool (!bH s)) Z:=by
 refine aB.of ?_
 rw [aH h.XA h.U4 h.Yn h.WD (args':=[.str s]) (by simp only [aW,dA]),aZ (by kernel_rfl)]
 have kc:=fun (Y:Sg)=>Xg (Z:=Y) h (s:=s)
 simp only [aA,Tryz.f199,KP,↓reduceIte,reduceLT,reduceCtorEq,kc]
 exact rfl
theorem Ed (h:bK E) {s:aX}:KC E 199 [.str s] Z (.bool (!bH s)) Z:=dN fun _=>Ew h
theorem Bt (h:bK E) {a:V} {l:List aX} (ha:LS aM 9 Z a l) (hsm:l.length <= 4294967296):KC E 67 [a,.fn 199 [] []] Z (.bool (!(l.all bH))) Z:=dN fun _=>by rw [List.not_all_eq_any_not]; exact KE (k:=199) (caps:=[]) (P:=fun s=>!bH s) h ha hsm (fun _ h=>by cases h) (fun y v hy hv=>by subst hv; show aB E 199 [.str y] [] _; rw [Ew h]; exact ⟨rfl,rfl⟩)
def KY (s:AxS.Step):Bool:=bH s.out && s.args.all bH && cA s
theorem RS (h:bK E) {v:V} {x:AxS.Step} (hv:Ms v x) (h1:x.args.length <= 4294967296) (h2:x.lits.length <= 4294967296):aB E 201 [v] Z K = K (.bool (!KY x)) Z:=by
 refine aB.of ?_
 have ev:=hv.snap (E:=E) Z
 obtain ⟨a,b,rfl,ia,ib⟩:=hv
 have hoka:a.a_ = true:=aL ia.bE
 have hokb:b.a_ = true:=aL ib.bE
 rw [aH h.Xy h.U2 h.Yl h.WB (args':=[.agg [.str x.out,.int .i64 x.op,a,b,.int .i64 x.n]]) (by simp only [aW,ev]),aZ (by kernel_rfl)]
 have k1:=fun (Y:Sg)=>Ed (Z:=Y) h (s:=x.out)
 have k2:=fun (Y:Sg)=>Bt (Z:=Y) h (ia.ls Y 9) h1
 have k3:=fun (Y:Sg)=>LB (Z:=Y) h (v:=.agg [.str x.out,.int .i64 x.op,a,b,.int .i64 x.n]) ⟨a,b,rfl,ia,ib⟩ h2
 unfold KY
 cases e1:bH x.out with
 | false=>
  simp only [aA,Tryz.f201,KP,Ax.loadAt,↓reduceIte,reduceEqDiff,reduceLT,reduceAdd,reduceCtorEq,h.c_,h.cR,hoka,hokb,k1,e1]
  exact rfl
 | true=>
  cases e2:x.args.all bH with
  | false=>
   simp only [aA,Tryz.f201,KP,Ax.loadAt,↓reduceIte,reduceEqDiff,reduceLT,reduceAdd,reduceCtorEq,h.c_,h.bB,h.cR,hoka,hokb,k1,k2,e1,e2]
   exact rfl
  | true=>
   simp only [aA,Tryz.f201,KP,Ax.loadAt,↓reduceIte,reduceEqDiff,reduceLT,reduceAdd,reduceCtorEq,h.c_,h.bB,h.cR,hoka,hokb,k1,k2,k3,e1,e2]
   exact rfl
theorem Ej (r:aG):jM r = (bH r.name && decide (r.outs ≠ []) && r.ins.all bH && r.outs.all bH && r.after.all bH && r.steps.all KY):=rfl
theorem RR (h:bK E) {v:V} {x:aG} (hv:HK v x) (hs:Small x):aB E 167 [v] Z K = K (.bool (jM x)) Z:=by
 refine aB.of ?_
 have ev:=hv.snap (E:=E) Z
 obtain ⟨a,b,c,d,rfl,ia,ib,ic,id⟩:=hv
 have o1:=aL ia.bE
 have o2:=aL ib.bE
 have o3:=aL ic.bE
 have o4:=aL id.bE
 have l1:=hs.ins
 have l2:=hs.outs
 have l3:=hs.after
 have l4:=hs.steps
 rw [aH h.XI h.Vb h.Yu h.WL (args':=[.agg [.str x.name,a,b,c,d]]) (by simp only [aW,ev]),aZ (by kernel_rfl)]
 have lb:=bO h ib
 have kn:=fun (Y:Sg)=>Ed (Z:=Y) h (s:=x.name)
 have k1:=fun (Y:Sg)=>Bt (Z:=Y) h (ia.ls Y 9) (by omega)
 have k2:=fun (Y:Sg)=>Bt (Z:=Y) h (ib.ls Y 9) (by omega)
 have k3:=fun (Y:Sg)=>Bt (Z:=Y) h (ic.ls Y 9) (by omega)
 have k4:=fun (Y:Sg)=>LJ (Z:=Y) (k:=201) (caps:=[]) (P:=fun s=>!KY s) h (id.ls Y 75) (by omega) (fun _ h=>by cases h) (fun y v hy hv=>by
  have hy1:=hs.args y hy
  have hy2:=hs.lits y hy
  show aB E 201 [v] [] _
  rw [RS h hv (by omega) (by omega)]; exact ⟨rfl,rfl⟩)
 rw [Ej]
 cases e0:bH x.name with
 | false=>
  simp only [aA,Tryz.f167,KP,Ax.loadAt,↓reduceIte,reduceEqDiff,reduceLT,reduceAdd,reduceCtorEq,h.c_,h.bJ,o1,o2,o3,o4,kn,e0]
  exact rfl
 | true=>
 by_cases h0:x.outs = []
 ·have q0:decide ((x.outs.length:Int) = 0) = true:=decide_eq_true (by rw [h0]; rfl)
  simp only [aA,Tryz.f167,KP,Ax.loadAt,↓reduceIte,reduceEqDiff,reduceLT,reduceAdd,reduceCtorEq,h.c_,h.bB,h.bJ,o1,o2,o3,o4,kn,e0,lb,q0]
  rw [h0]
  exact rfl
 have q0:decide ((x.outs.length:Int) = 0) = false:=decide_eq_false (by have:=List.length_pos_iff.2 h0; omega)
 rw [show decide (x.outs ≠ []) = true from decide_eq_true h0]
 have hf:Ax.fill (fun j=>some (j * 1,1)) (fQ 3 [V.aC]) [(0,a),(1,b),(2,c)] = some [a,b,c]:=by
  rcases ia with ⟨rfl,-⟩ | ⟨_,_,_,rfl,-⟩ <;> rcases ib with ⟨rfl,-⟩ | ⟨_,_,_,rfl,-⟩ <;> rcases ic with ⟨rfl,-⟩ | ⟨_,_,_,rfl,-⟩ <;> rfl
 have lz:∀ Z,lenOf E Z 30 (.sl 1 0 3 none) = some 3:=fun Z=>by unfold lenOf; rw [h.MI]
 have i0:indexAddr E 30 (.sl 1 0 3 none) (.int .i64 0) = some (.ref 1 0):=by unfold Ax.indexAddr; simp only [h.MI,h.bB]; rfl
 have i1:indexAddr E 30 (.sl 1 0 3 none) (.int .i64 1) = some (.ref 1 1):=by unfold Ax.indexAddr; simp only [h.MI,h.bB]; rfl
 have i2:indexAddr E 30 (.sl 1 0 3 none) (.int .i64 2) = some (.ref 1 2):=by unfold Ax.indexAddr; simp only [h.MI,h.bB]; rfl
 have d0:decide ((0:Int) < ((3:Nat):Int)) = true:=rfl
 have d1:decide ((1:Int) < ((3:Nat):Int)) = true:=rfl
 have d2:decide ((2:Int) < ((3:Nat):Int)) = true:=rfl
 have d3:decide ((3:Int) < ((3:Nat):Int)) = false:=rfl
 have w1:wr .i64 1 = 1:=rfl
 have w2:wr .i64 2 = 2:=rfl
 have w3:wr .i64 3 = 3:=rfl
 simp only [aA,Tryz.f167,KP,Ax.loadAt,↓reduceIte,reduceEqDiff,reduceLT,reduceLeDiff,reduceAdd,reduceMul,reduceCtorEq,h.c_,h.bB,h.MI,h.bJ,o1,o2,o3,o4,kn,e0,lb,q0,hf,lz]
 rw [aF]
 cases e1:x.ins.all bH with
 | false=>
  simp only [KP,Ax.loadAt,↓reduceIte,reduceEqDiff,reduceLT,h.bB,k1,e1,i0,d0]
  exact rfl
 | true=>
 simp only [KP,Ax.loadAt,↓reduceIte,reduceEqDiff,reduceLT,Int.reduceAdd,h.bB,k1,e1,w1,i0,d0]
 rw [aF]
 cases e2:x.outs.all bH with
 | false=>
  simp only [KP,Ax.loadAt,↓reduceIte,reduceEqDiff,reduceLT,h.bB,k2,e2,i1,d1]
  exact rfl
 | true=>
 simp only [KP,Ax.loadAt,↓reduceIte,reduceEqDiff,reduceLT,Int.reduceAdd,h.bB,k2,e2,w2,i1,d1]
 rw [aF]
 cases e3:x.after.all bH with
 | false=>
  simp only [KP,Ax.loadAt,↓reduceIte,reduceEqDiff,reduceLT,h.bB,k3,e3,i2,d2]
  exact rfl
 | true=>
 simp only [KP,Ax.loadAt,↓reduceIte,reduceEqDiff,reduceLT,Int.reduceAdd,h.bB,k3,e3,w3,i2,d2]
 rw [aF]
 have e4:x.steps.all KY = !(x.steps.any fun s=>!KY s):=by rw [<- List.not_all_eq_any_not,Bool.not_not]
 rw [e4]
 simp only [KP,Ax.loadAt,↓reduceIte,reduceEqDiff,reduceLT,reduceCtorEq,h.fG,h.bJ,k4,d3]
 exact rfl
theorem QO (h:bK E) {v:V} {x:aG} (hv:HK v x) (hs:Small x):KC E 167 [v] Z (.bool (jM x)) Z:=dN fun _=>RR h hv hs
end
end
section
section
variable {E:Env} {Z:Sg} {K:V -> Sg -> Prop}
theorem O_ (h:bK E) {a:V} {l:List aX} (ha:LS aM 9 Z a l) (hsm:l.length <= 4294967296):aB E 202 [a] Z K = K (.bool (kF l)) Z:=by
 refine aB.of ?_
 obtain ⟨a',ea,ia⟩:=jQ h ha
 rw [aH h.Xx h.U1 h.Yk h.WA (args':=[a']) (by simp only [aW,ea]),aZ (by kernel_rfl)]
 have la:=bO h ia
 simp only [aA,Tryz.f202,KP,↓reduceIte,reduceLT,reduceCtorEq,la]
 refine aU (fun i F Y=>Y = [] /\ F.get 0 = a' /\ F.get 5 = a' /\ F.get 6 = .int .i64 (l.length:Int) /\ F.get 7 = .int .i64 (i:Int) /\ ∀ (j:Nat) (y:aX),j < i -> l[j]? = some y -> y ∉ l.take j) l.length ?_ ?_ l.length 0 _ _ (by omega) ⟨rfl,(gY (by simp +decide only [GS,and_self]) (fun j y hj=>by omega))⟩
 ·rintro i F Y hi ⟨rfl,g0,g5,g6,g7,hp⟩ next
  obtain ⟨x,hx⟩:∃ x,l[i]? = some x:=⟨_,List.getElem?_eq_getElem hi⟩
  obtain ⟨g,e1⟩:=gG h ia hx
  obtain ⟨w,hw,iw⟩:=vT h ia (b:=i) (by omega)
  have hlt:=eE hi
  have hadd:=bY i (by omega)
  have kc:=fun (Y:Sg)=>Cy (Z:=Y) h (s:=x) (iw.ls Y 9) (by rw [length_take]; omega)
  rw [aF]
  by_cases hm:x ∈ l.take i
  ·have hs:=decide_eq_true hm
   simp only [KP,Ax.loadAt,↓reduceIte,reduceEqDiff,reduceLT,reduceCtorEq,h.c_,g0,g5,g6,g7,hlt,e1,hw,kc,hs]
   rw [BI hx hm]
   exact rfl
  ·have hs:=decide_eq_false hm
   simp only [KP,Ax.loadAt,↓reduceIte,reduceEqDiff,reduceLT,reduceCtorEq,h.c_,g0,g5,g6,g7,hlt,e1,hw,kc,hs,hadd]
   refine next _ _ ⟨rfl,(gY (by simp +decide only [GS,g0,g5,g6,and_self]) (fun j y hj hy=>?_))⟩
   rcases Nat.lt_or_ge j i with g | g
   ·exact hp j y g hy
   ·obtain rfl:j = i:=by omega
    rw [hx] at hy; cases hy; exact hm
 ·rintro F Y ⟨rfl,g0,g5,g6,g7,hp⟩
  have hlt:=eF (Nat.lt_irrefl l.length)
  rw [aF]
  simp only [KP,↓reduceIte,reduceLT,g6,g7,hlt]
  rw [yZ fun j y hy=>hp j y (List.getElem?_eq_some_iff.1 hy).1 hy]
  exact rfl
theorem Cw (h:bK E) {a:V} {l:List aX} (ha:LS aM 9 Z a l) (hsm:l.length <= 4294967296):KC E 202 [a] Z (.bool (kF l)) Z:=dN fun _=>O_ h ha hsm
theorem CR (h:bK E):oA E 28 true .aC .aC = some true:=by unfold oA; rw [h.bB]
theorem CQ (h:bK E) {g:Bool} {rs:List (List V)} {f:Bool}:oA E 28 true (.bL g rs f) .aC = some false:=by unfold oA; rw [h.bB]
theorem sK (h:bK E) {a:V} {l:List aX} (ia:IS aM a l) (hl:l.length <= 1000):aB E 97 [a] Z fun v σ'=>bD aM 9 σ' v l /\ Kp Z σ' /\ ∀ b,aQ v = some b -> Z.length <= b:=by
 rw [dF h.hs97 h.sp97 h.fn97 h.md97,aZ (by kernel_rfl)]
 rcases ia with ⟨rfl,rfl⟩ | ⟨g,rs,full,rfl,ha⟩
 ·simp only [aA,Tryz.f97,KP,↓reduceIte,reduceLT,reduceCtorEq,CR h]
  exact ⟨.inl ⟨rfl,rfl⟩,fun _ _ h=>h,fun b hb=>by cases hb⟩
 ·obtain ⟨rs',e,ha'⟩:=qW (L:=aM) (x:=.bL g rs full) (l:=l) (.inr ⟨g,rs,full,rfl,ha⟩) (Z ++ [O.cells 9 [] true])
  obtain ⟨w',τ',h1,h2,h3,h4,h5⟩:=jX (ats:=#[28,28]) (Z:=Z ++ [O.cells 9 [] true]) (w:=.sl Z.length 0 0 none) (l:=[]) (L:=aM) h.bB rfl h.c_ rfl (by decide) (jD h) rfl (.inr ⟨Z.length,[],true,rfl,aO,.nil⟩) e ha' (eU (b:=1000) (by decide) (by simp only [length_nil]; omega))
  rw [List.nil_append] at h2
  simp only [aA,Tryz.f97,KP,↓reduceIte,reduceEqDiff,reduceLT,reduceLeDiff,reduceCtorEq,h.c_,h.bB,CQ h,h1,Ax.fill,fQ,Nat.zero_mul]
  refine ⟨h2,fun c o hc=>h3 _ _ (aN hc) fun e=>?_,fun b hb=>?_⟩
  ·cases e
   exact absurd (List.getElem?_eq_some_iff.1 hc).1 (Nat.lt_irrefl _)
  ·rcases h5 b hb with g | g
   ·cases g; exact Nat.le_refl _
   ·simp only [length_append,length_cons,length_nil] at g; omega
theorem Gb {Z:Sg} {ty:Nat -> Option Ty} {g:Bool} {b n t m:Nat} {cs:List V} {ex:Bool} {i:Ty} (hb:Z[b]? = some (.cells t cs ex)) (hty:ty t = some i) (hlen:n * i.size <= cs.length)
  (hi:∀ c ∈ cs.take (n * i.size),Ax.bE c = true /\ cF g c = true):∃ full,bP Z ty g (m + 2) (.sl b 0 n none) = some (.bL g (rows i.size n (cs.take (n * i.size))) full):=by
 have hm:aW (fun v=>match bP Z ty g (m + 1) v with
   | some v=>if cF g v then some v else Ax.no "snap: borrowed"
   | none=>none) ((cs.drop 0).take (n * i.size)) = some (cs.take (n * i.size)):=by
  rw [List.drop_zero]
  refine iU fun x hx=>?_
  rw [jR (hi x hx).1]
  simp only [(hi x hx).2,if_true]
 refine ⟨ex && decide (0 < i.size) && (0 + n * i.size == cs.length),?_⟩
 rw [bP]
 simp only [hb,hty]
 rw [if_pos (by omega)]
 exact congrArg (fun o=>match o with
  | some l=>some (V.bL g (rows i.size n l) (ex && decide (0 < i.size) && (0 + n * i.size == cs.length)))
  | none=>none) hm
theorem K1 (h:bK E) {Z:Sg} {w:V} {l:List aX} {m:Nat} (ow:bD aM 9 Z w l):∃ w',bP Z E.ty true (m + 2) w = some w' /\ IS aM w' l:=by
 rcases ow with ⟨rfl,rfl⟩ | ⟨b,rs,ex,rfl,hb,ha⟩
 ·exact ⟨.aC,rfl,.inl ⟨rfl,rfl⟩⟩
 ·have hfl:=Lay.flat ha
  have hfl:rs.flatten.length = l.length * 1:=hfl
  have htk:rs.flatten.take (l.length * 1) = rs.flatten:=take_of_length_le (by omega)
  obtain ⟨full,e⟩:=Gb (g:=true) (n:=l.length) (m:=m) hb h.c_ (show l.length * 1 <= _ by omega) (fun c hcm=>by
   rw [show rs.flatten.take (l.length * 1) = rs.flatten from htk] at hcm
   obtain ⟨r,hr,hcr⟩:=List.mem_flatten.1 hcm
   obtain ⟨x,-,hp⟩:=ha.mem hr
   have:=aM.im r x hp c hcr
   exact ⟨this,cE this⟩)
  refine ⟨_,e,.inr ⟨true,rs,full,?_,ha⟩⟩
  show V.bL true (rows 1 l.length (rs.flatten.take (l.length * 1))) full = _
  rw [htk,<- ha.len]
  exact congrArg (fun z=>V.bL true z full) (lH (sz:=1) rs (Lay.lens ha))
theorem vS {Z:Sg} {f k t:Nat} {cs cs':List V} {ex:Bool} (hb:Z[k]? = some (.cells t cs ex)) (hm:aW (fun v=>match bP Z E.ty true 11 v with
   | some v=>if cF true v then some v else Ax.no "snap: borrowed"
   | none=>none) cs = some cs'):aV Z E.ty true (.fn f [] [.ref k 0]) = some (.fn f [] [.dU true cs']):=by
 have e:bP Z E.ty true 12 (.ref k 0) = some (.dU true cs'):=by
  rw [bP]
  simp only [hb,List.drop_zero]
  exact congrArg (fun o=>match o with
   | some l=>some (V.dU true l)
   | none=>none) hm
 have e1:aV.one Z E.ty true (.ref k 0) = some (.dU true cs'):=by
  unfold aV.one
  rw [show dY = 12 from rfl,e]
  rfl
 simp only [aV,aW,e1]
theorem BV (h:bK E) {Z:Sg} {w:V} {l:List aX} {f k t:Nat} {ex:Bool} (hb:Z[k]? = some (.cells t [w] ex)) (ow:bD aM 9 Z w l):∃ w',aV Z E.ty true (.fn f [] [.ref k 0]) = some (.fn f [] [.dU true [w']]) /\ IS aM w' l:=by
 obtain ⟨w',e,iw⟩:=K1 (m:=9) h ow
 refine ⟨w',vS hb ?_,iw⟩
 simp only [aW,e,cE iw.bE,if_true]
theorem Ii {Z:Sg} {f k t:Nat} {cs:List V} {ex:Bool} (hb:Z[k]? = some (.cells t cs ex)) (hc:∀ c ∈ cs,Ax.bE c = true):aV Z E.ty true (.fn f [] [.ref k 0]) = some (.fn f [] [.dU true cs]):=
 vS hb (iU fun x hx=>by rw [show 11 = 10 + 1 from rfl,jR (hc x hx)]; simp only [cE (hc x hx),if_true])
theorem Hy (h:bK E) {w:V} {l:List aX} {y:aX} {g:Bool} (iw:IS aM w l) (hsm:l.length <= 4294967296):aB E 203 [.str y,.dU g [w]] [] K = K (.bool (!decide (y ∈ l))) []:=by
 refine aB.of ?_
 have hi:Ax.bE (.dU g [w]) = true:=rfl
 have ew:=dG (Z:=[]) (ty:=E.ty) hi (cE hi)
 rw [aH h.Xw h.U0 h.Yj h.Wz (args':=[.str y,.dU g [w]]) (by simp only [aW,dA,ew]),aZ (by kernel_rfl)]
 have kc:=fun (Y:Sg)=>Cy (Z:=Y) h (s:=y) (iw.ls Y 9) hsm
 simp only [aA,Tryz.f203,KP,Ax.loadAt,↓reduceIte,reduceEqDiff,reduceLT,reduceAdd,reduceCtorEq,h.bB,kc]
 exact rfl
theorem Pg (h:bK E) {a b c d:V} {l:List aX} {n y:aX} {g:Bool} (ia:IS aM a l) (hb:Ax.bE b = true) (hc:Ax.bE c = true) (hd:Ax.bE d = true) (hsm:l.length <= 4294967296):aB E 204 [.str y,.dU g [.str n,a,b,c,d]] [] K = K (.bool (decide (y ∈ l))) []:=by
 refine aB.of ?_
 have hi:Ax.bE (.dU g [.str n,a,b,c,d]) = true:=rfl
 have ew:=dG (Z:=[]) (ty:=E.ty) hi (cE hi)
 rw [aH h.Xv h.UZ h.Yi h.Wy (args':=[.str y,.dU g [.str n,a,b,c,d]]) (by simp only [aW,dA,ew]),aZ (by kernel_rfl)]
 have kc:=fun (Y:Sg)=>Cy (Z:=Y) h (s:=y) (ia.ls Y 9) hsm
 simp only [aA,Tryz.f204,KP,Ax.loadAt,↓reduceIte,reduceEqDiff,reduceLT,reduceAdd,reduceCtorEq,h.bB,h.bJ,kc]
 exact rfl
end
end
section
section
variable {E:Env} {Z:Sg} {K:V -> Sg -> Prop}
theorem bD.set {Z:Sg} {w:V} {l:List aX} {k:Nat} {y:O} (ow:bD aM 9 Z w l) (hk:aQ w ≠ some k):bD aM 9 (Z.set k y) w l:=ow.keep fun c o hc ho=>by
 rw [getElem?_set_ne (fun e=>hk (by rw [e]; exact hc))]
 exact ho
theorem N6 (h:bK E) {x:aG} {a b c d:V} (ia:IS aM a x.ins) (ib:IS aM b x.outs) (id:IS eX d x.steps) (hs:Small x) {kb:Nat} {Y:Sg} {w:V} (b0:Y[0]? = some (O.cells 37 [.str x.name,a,b,c,d] true)) (k0:Y[kb]? = some (.cells 28 [w] true)) (ow:bD aM 9 Y w x.ins) (F:FT) (g1:F.get 1 = .ref 0 0) (g3:F.get 3 = .ref kb 0) (g4:F.get 4 = .fn 203 [] [.ref kb 0])
  (hk:∀ σ',K (.bool (g_ x.ins x.steps && x.outs.all fun o=>decide (o ∈ x.ins ++ x.steps.map Step.out))) σ'):R E (cutAt [1,1,1,1,1] (aA Tryz.f168).code) [] ⟨63,F⟩ Y (mD E (aA Tryz.f168).results K):=by
 have l1:=hs.ins
 have l2:=hs.outs
 have l4:=hs.steps
 have ld:=kZ h id
 simp only [aA,Tryz.f168,KP,Ax.loadAt,↓reduceIte,reduceLT,reduceCtorEq,h.fG,h.bJ,cutAt,g1,b0,ld]
 refine aU (fun i F Y=>F.get 1 = .ref 0 0 /\ F.get 3 = .ref kb 0 /\ F.get 4 = .fn 203 [] [.ref kb 0] /\ F.get 36 = d /\ F.get 37 = .int .i64 (x.steps.length:Int) /\ F.get 38 = .int .i64 (i:Int) /\ Y[0]? = some (O.cells 37 [.str x.name,a,b,c,d] true) /\ ∃ w,Y[kb]? = some (.cells 28 [w] true) /\ bD aM 9 Y w (x.ins ++ (x.steps.take i).map Step.out) /\ g_ x.ins x.steps = g_ (x.ins ++ (x.steps.take i).map Step.out) (x.steps.drop i)) x.steps.length ?_ ?_ x.steps.length 0 _ _ (by omega) (yP (by simp +decide only [GS,g1,g3,g4,and_self]) ⟨b0,w,k0,by simpa using ow,by simp⟩)
 ·rintro i F Y hi ⟨g1,g3,g4,g36,g37,g38,b0,w,k0,ow,hst⟩ next
  obtain ⟨s,hsi⟩:∃ y,x.steps[i]? = some y:=⟨_,List.getElem?_eq_getElem hi⟩
  obtain ⟨g,p1,p2,e1,i1,i2⟩:=uS h id hsi
  have a8:=hs.args s (mem_of_getElem? hsi)
  have o1:=aL i1.bE
  have o2:=aL i2.bE
  have hlt:=eE hi
  have hadd:=bY i (by omega)
  have hdrop:x.steps.drop i = s :: x.steps.drop (i + 1):=by
   obtain ⟨hj,rfl⟩:=List.getElem?_eq_some_iff.1 hsi
   exact List.drop_eq_getElem_cons hj
  have htake:x.ins ++ (x.steps.take (i + 1)).map Step.out = x.ins ++ (x.steps.take i).map Step.out ++ [s.out]:=by
   rw [take_add_one,hsi]; simp
  have hkl:(x.ins ++ (x.steps.take i).map Step.out).length <= 100:=by
   rw [length_append,length_map,length_take]; omega
  rw [hdrop,g_] at hst
  rw [htake] at next
  generalize x.ins ++ (x.steps.take i).map Step.out = kn at *
  rw [hst] at hk
  have b1:=aN (x:=O.cells 75 [.str s.out,.int .i64 s.op,p1,p2,.int .i64 s.n] true) b0
  have k1:=aN (x:=O.cells 75 [.str s.out,.int .i64 s.op,p1,p2,.int .i64 s.n] true) k0
  have s1:(Y ++ [O.cells 75 [.str s.out,.int .i64 s.op,p1,p2,.int .i64 s.n] true])[Y.length]? = some (O.cells 75 [.str s.out,.int .i64 s.op,p1,p2,.int .i64 s.n] true):=aO
  have ow1:=ow.app [O.cells 75 [.str s.out,.int .i64 s.op,p1,p2,.int .i64 s.n] true]
  rw [aF]
  simp only [KP,Ax.loadAt,Ax.storeAt,↓reduceIte,reduceEqDiff,reduceLT,reduceAdd,h.bB,h.cR,g3,g36,g37,g38,hlt,e1,o1,o2,aO,cH]
  generalize Y ++ [O.cells 75 [.str s.out,.int .i64 s.op,p1,p2,.int .i64 s.n] true] = τ1 at *
  generalize Y.length = y at *
  have kc:=Cy (Z:=τ1) h (s:=s.out) ow1.ls (by omega)
  obtain ⟨w',es,iw⟩:=BV (f:=203) h k1 ow1
  have kf:=dN (fun K=>qZ (Z:=τ1) (K:=K) (k:=203) (caps:=[.dU true [w']]) (P:=fun y=>!decide (y ∈ kn)) h (i1.ls τ1 9) (by omega) (fun c hc=>by cases hc with | head=>rfl | tail _ hc=>cases hc) (fun y v hy hv=>by
   subst hv
   show aB E 203 [.str y,.dU true [w']] [] _
   rw [Hy h iw (by omega)]; exact ⟨rfl,rfl⟩) es)
  by_cases m1:s.out ∈ kn
  ·have q1:=decide_eq_true m1
   rw [q1] at hk
   simp only [KP,Ax.loadAt,↓reduceIte,reduceEqDiff,reduceLT,reduceCtorEq,h.c_,h.cR,k1,s1,kc,q1]
   exact hk _
  have q1:=decide_eq_false m1
  cases m2:s.args.any fun y=>!decide (y ∈ kn) with
  | true=>
   rw [show s.args.all (fun a=>decide (a ∈ kn)) = false from by rw [<- Bool.not_eq_true',List.not_all_eq_any_not,m2],Bool.and_false,Bool.false_and,Bool.false_and] at hk
   simp only [KP,Ax.loadAt,↓reduceIte,reduceEqDiff,reduceLT,reduceCtorEq,h.c_,h.bB,h.cR,g4,k1,s1,kc,kf,q1,m2]
   exact hk _
  | false=>
  rw [q1,show s.args.all (fun a=>decide (a ∈ kn)) = true from by rw [<- Bool.not_eq_false',List.not_all_eq_any_not,m2],Bool.not_false,Bool.true_and,Bool.true_and] at hst
  have b2:=aN (x:=O.cells 9 [.str s.out] true) b1
  have k2:=aN (x:=O.cells 9 [.str s.out] true) k1
  obtain ⟨w2,τ2,ha2,ow2,Sb,-,fr2⟩:=jX (ats:=#[28,28]) (m:=[s.out]) (new:=[[.str s.out]]) h.bB rfl h.c_ rfl (by decide) (jD h) rfl (ow1.app [.cells 9 [.str s.out] true]) (mM rfl) (.one rfl) (eU (b:=1000) (by decide) (by simp only [length_cons,length_nil]; omega))
  have nk:=kC (w:=w) k2 (by decide) (ow1.app [.cells 9 [.str s.out] true])
  have n0:=kC (w:=w) b2 (by decide) (ow1.app [.cells 9 [.str s.out] true])
  have k3:=Sb _ _ k2 nk
  have b3:=Sb _ _ b2 n0
  have nk2:aQ w2 ≠ some kb:=kC k3 (by decide) ow2
  obtain ⟨c1,c2⟩:=qG ow2
  have hkb:kb ≠ 0:=fun e=>by
   rw [e,b0] at k0
   cases k0
  have hlen:=(List.getElem?_eq_some_iff.1 k3).1
  simp only [KP,Ax.loadAt,Ax.storeAt,↓reduceIte,reduceEqDiff,reduceLT,reduceLeDiff,reduceMul,reduceCtorEq,h.c_,h.bB,h.cR,g3,g4,g38,k1,s1,kc,kf,q1,m2,kL,ha2,k3,c1,c2,hadd]
  refine next _ _ ⟨?_,?_,?_,?_,?_,?_,?_,w2,?_,?_,?_⟩
  ·exact (by simp +decide only [GS,g1])
  ·exact (by simp +decide only [GS,g3])
  ·exact (by simp +decide only [GS,g4])
  ·exact (by simp +decide only [GS,g36])
  ·exact (by simp +decide only [GS,g37])
  ·exact (by simp +decide only [GS])
  ·rw [getElem?_set_ne hkb]; exact b3
  ·rw [getElem?_set_self hlen]
  ·exact bD.set ow2 nk2
  ·exact hst
 ·rintro F Y ⟨g1,g3,g4,g36,g37,g38,b0,w,k0,ow,hst⟩
  rw [take_of_length_le (Nat.le_refl _)] at ow hst
  rw [show x.steps.drop x.steps.length = [] from List.drop_length,g_] at hst
  have hkl:(x.ins ++ x.steps.map Step.out).length <= 100:=by
   rw [length_append,length_map]; omega
  generalize x.ins ++ x.steps.map Step.out = kn at *
  obtain ⟨w',es,iw⟩:=BV (f:=203) h k0 ow
  have kf:=dN (fun K=>qZ (Z:=Y) (K:=K) (k:=203) (caps:=[.dU true [w']]) (P:=fun y=>!decide (y ∈ kn)) h (ib.ls Y 9) (by omega) (fun c hc=>by cases hc with | head=>rfl | tail _ hc=>cases hc) (fun y v hy hv=>by
   subst hv
   show aB E 203 [.str y,.dU true [w']] [] _
   rw [Hy h iw (by omega)]; exact ⟨rfl,rfl⟩) es)
  have hlt:=eF (Nat.lt_irrefl x.steps.length)
  rw [hst,Bool.true_and] at hk
  have e:(x.outs.all fun o=>decide (o ∈ kn)) = !(x.outs.any fun y=>!decide (y ∈ kn)):=by rw [<- List.not_all_eq_any_not,Bool.not_not]
  rw [e] at hk
  rw [aF]
  simp only [KP,Ax.loadAt,↓reduceIte,reduceEqDiff,reduceLT,reduceCtorEq,h.bB,h.bJ,g1,g4,g37,g38,hlt,b0,kf]
  exact hk _
theorem RO (h:bK E) {v:V} {x:aG} (hv:HK v x) (hs:Small x):aB E 168 [v] Z K = K (.bool (fB x)) Z:=by
 refine aB.of ?_
 have ev:=hv.snap (E:=E) Z
 obtain ⟨a,b,c,d,rfl,ia,ib,ic,id⟩:=hv
 have o1:=aL ia.bE
 have o2:=aL ib.bE
 have o3:=aL ic.bE
 have o4:=aL id.bE
 have l1:=hs.ins
 have l2:=hs.outs
 have l3:=hs.after
 rw [aH h.XH h.Va h.Yt h.WK (args':=[.agg [.str x.name,a,b,c,d]]) (by simp only [aW,ev]),aZ (by kernel_rfl)]
 have k1:=fun (Y:Sg)=>Cw (Z:=Y) h (ia.ls Y 9) (by omega)
 have k2:=fun (Y:Sg)=>Cw (Z:=Y) h (ib.ls Y 9) (by omega)
 have k3:=fun (Y:Sg)=>Cw (Z:=Y) h (ic.ls Y 9) (by omega)
 have kc:=fun (Y:Sg)=>Cy (Z:=Y) h (s:=x.name) (ic.ls Y 9) (by omega)
 have rest:=fun (hn:(g_ x.ins x.steps && x.outs.all fun o=>decide (o ∈ x.ins ++ x.steps.map Step.out)) = fB x) kb Y w F b0 k0 ow g1 g3 g4=>N6 (K:=fun v σ1=>match cP σ1 E.ty false v with
   | some v=>v = .bool (fB x)
   | none=>False) (c:=c) h ia ib id hs (kb:=kb) (Y:=Y) (w:=w) b0 k0 ow F g1 g3 g4 fun _=>by rw [hn]; exact rfl
 generalize hC:cutAt [1,1,1,1,1] (aA Tryz.f168).code = C at rest
 cases e0:kF x.ins with
 | true=>
  simp only [aA,Tryz.f168,KP,Ax.loadAt,↓reduceIte,reduceEqDiff,reduceLT,reduceAdd,reduceCtorEq,h.bB,h.bJ,o1,o2,o3,o4,k1,e0]
  show V.bool false = V.bool (fB x)
  unfold fB
  simp [e0]
 | false=>
 cases e1:kF x.outs with
 | true=>
  simp only [aA,Tryz.f168,KP,Ax.loadAt,↓reduceIte,reduceEqDiff,reduceLT,reduceAdd,reduceCtorEq,h.bB,h.bJ,o1,o2,o3,o4,k1,k2,e0,e1]
  show V.bool false = V.bool (fB x)
  unfold fB
  simp [e0,e1]
 | false=>
 cases e2:kF x.after with
 | true=>
  simp only [aA,Tryz.f168,KP,Ax.loadAt,↓reduceIte,reduceEqDiff,reduceLT,reduceAdd,reduceCtorEq,h.bB,h.bJ,o1,o2,o3,o4,k1,k2,k3,e0,e1,e2]
  show V.bool false = V.bool (fB x)
  unfold fB
  simp [e0,e1,e2]
 | false=>
 cases e3:decide (x.name ∈ x.after) with
 | true=>
  simp only [aA,Tryz.f168,KP,Ax.loadAt,↓reduceIte,reduceEqDiff,reduceLT,reduceAdd,reduceCtorEq,h.c_,h.bB,h.bJ,o1,o2,o3,o4,k1,k2,k3,kc,e0,e1,e2,e3]
  show V.bool false = V.bool (fB x)
  unfold fB
  rw [e0,e1,e2,e3]
  rfl
 | false=>
 rw [show (aA Tryz.f168).code = .seq (cutAt [0] (aA Tryz.f168).code) (.seq (cutAt [1,0] (aA Tryz.f168).code) (.seq (cutAt [1,1,0] (aA Tryz.f168).code) (.seq (cutAt [1,1,1,0] (aA Tryz.f168).code) (.seq (cutAt [1,1,1,1,0] (aA Tryz.f168).code) C)))) from by rw [<- hC]; rfl]
 simp only [aA,Tryz.f168,KP,Ax.loadAt,↓reduceIte,reduceEqDiff,reduceLT,reduceAdd,reduceCtorEq,h.c_,h.bB,h.bJ,cutAt,o1,o2,o3,o4,k1,k2,k3,kc,e0,e1,e2,e3]
 refine aI (sK h ia (by omega)) ?_
 rintro w Y ⟨ow,kp,-⟩
 have b0:Y[0]? = some (O.cells 37 [.str x.name,a,b,c,d] true):=kp 0 _ rfl
 obtain ⟨c1,c2⟩:=qG ow
 have b1:=aN (x:=O.cells 28 [w] true) b0
 have kk:(Y ++ [O.cells 28 [w] true])[Y.length]? = some (O.cells 28 [w] true):=aO
 have es:=Ii (E:=E) (f:=204) b1 (fun y hy=>by
  simp only [mem_cons,List.not_mem_nil,or_false] at hy
  rcases hy with rfl | rfl | rfl | rfl | rfl
  ·rfl
  ·exact ia.bE
  ·exact ib.bE
  ·exact ic.bE
  ·exact id.bE)
 have kf:=dN (fun K=>qZ (Z:=Y ++ [O.cells 28 [w] true]) (K:=K) (k:=204) (caps:=[.dU true [.str x.name,a,b,c,d]]) (P:=fun y=>decide (y ∈ x.ins)) h (ib.ls _ 9) (by omega) (fun c hc=>by cases hc with | head=>rfl | tail _ hc=>cases hc) (fun y v hy hv=>by
  subst hv
  show aB E 204 [.str y,.dU true [.str x.name,a,b,c,d]] [] _
  rw [Pg h ia ib.bE ic.bE id.bE (by omega)]; exact ⟨rfl,rfl⟩) es)
 have eo:(x.outs.all fun o=>!decide (o ∈ x.ins)) = !(x.outs.any fun y=>decide (y ∈ x.ins)):=by rw [List.not_any_eq_all_not]
 cases e4:x.outs.any fun y=>decide (y ∈ x.ins) with
 | true=>
  simp only [KP,Ax.loadAt,Ax.storeAt,↓reduceIte,reduceEqDiff,reduceLT,reduceCtorEq,h.bB,h.bJ,b1,kf,e4,c1,c2,aO,cH]
  show V.bool false = V.bool (fB x)
  unfold fB
  rw [eo,e0,e1,e2,e3,e4]
  rfl
 | false=>
 simp only [KP,Ax.loadAt,Ax.storeAt,↓reduceIte,reduceEqDiff,reduceLT,reduceCtorEq,h.bB,h.bJ,b1,kf,e4,c1,c2,aO,cH]
 refine rest ?_ Y.length _ w _ b1 kk (ow.app _) ?_ ?_ ?_
 ·unfold fB
  rw [eo,e0,e1,e2,e3,e4]
  simp
 ·exact (by simp +decide only [GS])
 ·exact (by simp +decide only [GS])
 ·exact (by simp +decide only [GS])
theorem QK (h:bK E) {v:V} {x:aG} (hv:HK v x) (hs:Small x):KC E 168 [v] Z (.bool (fB x)) Z:=dN fun _=>RO h hv hs
end
end
section
section
variable {E:Env} {Z:Sg} {K:V -> Sg -> Prop}
theorem RT (h:bK E) {v:V} {x:aG} (hv:HK v x) (hs:Small x):aB E 124 [v] Z K = K (.int .i64 (bA x)) Z:=by
 refine aB.of ?_
 have ev:=hv.snap (E:=E) Z
 obtain ⟨a,b,c,d,rfl,ia,ib,ic,id⟩:=hv
 have o1:=aL ia.bE
 have o2:=aL ib.bE
 have o3:=aL ic.bE
 have o4:=aL id.bE
 have la:=bO h ia
 have lb:=bO h ib
 have lc:=bO h ic
 have ld:=kZ h id
 rw [aH h.XR h.Vk h.YC h.WU (args':=[.agg [.str x.name,a,b,c,d]]) (by simp only [aW,ev]),aZ (by kernel_rfl)]
 have k1:=fun (Y:Sg)=>QO (Z:=Y) h (v:=.agg [.str x.name,a,b,c,d]) ⟨a,b,c,d,rfl,ia,ib,ic,id⟩ hs
 have k2:=fun (Y:Sg)=>QK (Z:=Y) h (v:=.agg [.str x.name,a,b,c,d]) ⟨a,b,c,d,rfl,ia,ib,ic,id⟩ hs
 cases e1:jM x with
 | false=>
  simp only [aA,Tryz.f124,KP,Ax.loadAt,↓reduceIte,reduceEqDiff,reduceLT,reduceAdd,h.bJ,o1,o2,o3,o4,k1,e1]
  show V.int .i64 1 = V.int .i64 (bA x)
  rw [show bA x = 1 from by unfold bA; rw [if_pos e1]]
 | true=>
 by_cases p0:8 < x.ins.length
 ·have q0:decide ((8:Int) < (x.ins.length:Int)) = true:=decide_eq_true (by omega)
  simp only [aA,Tryz.f124,KP,Ax.loadAt,↓reduceIte,reduceEqDiff,reduceLT,reduceAdd,reduceCtorEq,h.bB,h.bJ,o1,o2,o3,o4,la,k1,e1,q0]
  show V.int .i64 4 = V.int .i64 (bA x)
  rw [show bA x = 4 from by unfold bA; rw [if_neg (by rw [e1]; simp)]; rw [if_pos (by unfold long; rw [decide_eq_true p0]; simp)]]
 have q0:decide ((8:Int) < (x.ins.length:Int)) = false:=decide_eq_false (by omega)
 by_cases p1:4 < x.outs.length
 ·have q1:decide ((4:Int) < (x.outs.length:Int)) = true:=decide_eq_true (by omega)
  simp only [aA,Tryz.f124,KP,Ax.loadAt,↓reduceIte,reduceEqDiff,reduceLT,reduceAdd,reduceCtorEq,h.bB,h.bJ,o1,o2,o3,o4,la,lb,k1,e1,q0,q1]
  show V.int .i64 4 = V.int .i64 (bA x)
  rw [show bA x = 4 from by unfold bA; rw [if_neg (by rw [e1]; simp)]; rw [if_pos (by unfold long; rw [decide_eq_true p1]; simp)]]
 have q1:decide ((4:Int) < (x.outs.length:Int)) = false:=decide_eq_false (by omega)
 by_cases p2:8 < x.after.length
 ·have q2:decide ((8:Int) < (x.after.length:Int)) = true:=decide_eq_true (by omega)
  simp only [aA,Tryz.f124,KP,Ax.loadAt,↓reduceIte,reduceEqDiff,reduceLT,reduceAdd,reduceCtorEq,h.bB,h.bJ,o1,o2,o3,o4,la,lb,lc,k1,e1,q0,q1,q2]
  show V.int .i64 4 = V.int .i64 (bA x)
  rw [show bA x = 4 from by unfold bA; rw [if_neg (by rw [e1]; simp)]; rw [if_pos (by unfold long; rw [decide_eq_true p2]; simp)]]
 have q2:decide ((8:Int) < (x.after.length:Int)) = false:=decide_eq_false (by omega)
 by_cases p3:12 < x.steps.length
 ·have q3:decide ((12:Int) < (x.steps.length:Int)) = true:=decide_eq_true (by omega)
  simp only [aA,Tryz.f124,KP,Ax.loadAt,↓reduceIte,reduceEqDiff,reduceLT,reduceAdd,reduceCtorEq,h.bB,h.fG,h.bJ,o1,o2,o3,o4,la,lb,lc,ld,k1,e1,q0,q1,q2,q3]
  show V.int .i64 4 = V.int .i64 (bA x)
  rw [show bA x = 4 from by unfold bA; rw [if_neg (by rw [e1]; simp)]; rw [if_pos (by unfold long; rw [decide_eq_true p3]; simp)]]
 have q3:decide ((12:Int) < (x.steps.length:Int)) = false:=decide_eq_false (by omega)
 cases e2:fB x with
 | false=>
  simp only [aA,Tryz.f124,KP,Ax.loadAt,↓reduceIte,reduceEqDiff,reduceLT,reduceAdd,reduceCtorEq,h.bB,h.fG,h.bJ,o1,o2,o3,o4,la,lb,lc,ld,k1,k2,e1,q0,q1,q2,q3,e2]
  show V.int .i64 2 = V.int .i64 (bA x)
  rw [show bA x = 2 from by unfold bA; rw [if_neg (by rw [e1]; simp)]; rw [if_neg (by unfold long; rw [decide_eq_false p0,decide_eq_false p1,decide_eq_false p2,decide_eq_false p3]; simp)]; rw [if_pos e2]]
 | true=>
 simp only [aA,Tryz.f124,KP,Ax.loadAt,↓reduceIte,reduceEqDiff,reduceLT,reduceAdd,reduceCtorEq,h.bB,h.fG,h.bJ,o1,o2,o3,o4,la,lb,lc,ld,k1,k2,e1,q0,q1,q2,q3,e2]
 show V.int .i64 0 = V.int .i64 (bA x)
 rw [show bA x = 0 from by unfold bA; rw [if_neg (by rw [e1]; simp)]; rw [if_neg (by unfold long; rw [decide_eq_false p0,decide_eq_false p1,decide_eq_false p2,decide_eq_false p3]; simp)]; rw [if_neg (by rw [e2]; simp)]]
theorem QW (h:bK E) {v:V} {x:aG} (hv:HK v x) (hs:Small x):KC E 124 [v] Z (.int .i64 (bA x)) Z:=dN fun _=>RT h hv hs
end
end
section
section
variable {E:Env} {Z:Sg} {K:V -> Sg -> Prop}
def SM (E:Env) (es:List (V × V)) (get:aX -> Option V):Prop:=(∀ e ∈ es,(∃ k,e.1 = .str k) /\ Ax.bE e.2 = true) /\ ∀ k,iQ (eO E 9) (.str k) es = some (get k)
theorem bX (h:bK E) (a b:aX):eO E 9 (.str a) (.str b) = some (Ax.seq a b):=by unfold eO; rw [h.c_]
theorem Il:SM E [] fun _=>none:=⟨fun _ h=>(by cases h),fun _=>rfl⟩
theorem ET (h:bK E) {v:V} (k:aX) (hv:Ax.bE v = true):∀ {es:List (V × V)} {get:aX -> Option V},SM E es get -> ∃ es',kK (eO E 9) (.str k) v es = some es' /\ SM E es' fun q=>if q = k then some v else get q
 | [],get,hs=>by
  refine ⟨[(.str k,v)],rfl,fun e he=>?_,fun q=>?_⟩
  ·rw [mem_singleton.1 he]
   exact ⟨⟨k,rfl⟩,hv⟩
  ·show _ = some (if q = k then some v else get q)
   have e0:none = get q:=Option.some.inj (hs.2 q)
   rw [iQ,bX h]
   by_cases hq:q = k
   ·rw [iA hq,if_pos hq]
   ·rw [f_ hq,if_neg hq,<- e0]; rfl
 | (k0,v0) :: r,get,hs=>by
  obtain ⟨⟨s0,e0⟩,i0⟩:=hs.1 _ (mem_cons_self ..)
  dsimp only at e0 i0
  subst e0
  by_cases hk:k = s0
  ·refine ⟨(.str k,v) :: r,by rw [kK,bX h,iA hk],fun e he=>?_,fun q=>?_⟩
   ·rcases mem_cons.1 he with rfl | he
    ·exact ⟨⟨k,rfl⟩,hv⟩
    ·exact hs.1 e (mem_cons_of_mem _ he)
   ·have:=hs.2 q
    show _ = some (if q = k then some v else get q)
    rw [iQ,bX h] at this ⊢
    by_cases hq:q = k
    ·rw [iA hq,if_pos hq]
    ·rw [f_ (show q ≠ s0 by rw [<- hk]; exact hq)] at this
     rw [f_ hq,if_neg hq]
     exact this
  ·have hs':SM E r fun q=>if q = s0 then (match iQ (eO E 9) (.str q) r with | some y=>y | none=>none) else get q:=by
    refine ⟨fun e he=>hs.1 e (mem_cons_of_mem _ he),fun q=>?_⟩
    have:=hs.2 q
    rw [iQ,bX h] at this
    show _ = some (if q = s0 then (match iQ (eO E 9) (.str q) r with | some y=>y | none=>none) else get q)
    by_cases hq:q = s0
    ·rw [if_pos hq]
     have tot:∀ (l:List (V × V)),(∀ e ∈ l,∃ k,e.1 = V.str k) -> ∃ y,iQ (eO E 9) (.str q) l = some y:=by
      intro l
      induction l with
      | nil=>intro _; exact ⟨none,rfl⟩
      | cons e l ih=>
       intro hl
       obtain ⟨k1,e1⟩:=hl _ (mem_cons_self ..)
       obtain ⟨a,b⟩:=e
       dsimp only at e1
       subst e1
       rw [iQ,bX h]
       by_cases h1:q = k1
       ·rw [iA h1]; exact ⟨_,rfl⟩
       ·rw [f_ h1]; exact ih fun e he=>hl e (mem_cons_of_mem _ he)
     obtain ⟨y,hy⟩:=tot r fun e he=>(hs.1 e (mem_cons_of_mem _ he)).1
     rw [hy]
    ·rw [if_neg hq]
     rw [f_ hq] at this
     exact this
   obtain ⟨r',e1,s1⟩:=ET h k hv hs'
   refine ⟨(.str s0,v0) :: r',by rw [kK,bX h,f_ hk]; simp only [e1],fun e he=>?_,fun q=>?_⟩
   ·rcases mem_cons.1 he with rfl | he
    ·exact ⟨⟨s0,rfl⟩,i0⟩
    ·exact s1.1 e he
   ·have:=hs.2 q
    show _ = some (if q = k then some v else get q)
    rw [iQ,bX h] at this ⊢
    by_cases hq:q = s0
    ·rw [iA hq] at this ⊢
     rw [if_neg (show q ≠ k by rw [hq]; exact Ne.symm hk)]
     exact this
    ·rw [f_ hq]
     have h2:=s1.2 q
     dsimp only at h2
     rw [if_neg hq] at h2
     exact h2
def SB (E:Env) (es:List (V × V)) (p:aX -> Bool):Prop:=SM E es fun k=>if p k = true then some (.bool true) else none
theorem Nv:SB E [] fun _=>false:=Il
theorem S9 (h:bK E) {es:List (V × V)} {p:aX -> Bool} (hs:SB E es p) (k:aX):∃ es',kK (eO E 9) (.str k) (.bool true) es = some es' /\ SB E es' fun q=>p q || decide (q = k):=by
 obtain ⟨es',h1,h2⟩:=ET h (v:=.bool true) k rfl hs
 refine ⟨es',h1,h2.1,fun q=>(h2.2 q).trans ?_⟩
 show some (if q = k then some (V.bool true) else if p q = true then some (V.bool true) else none) = some (if (p q || decide (q = k)) = true then some (V.bool true) else none)
 by_cases hq:q = k
 ·rw [if_pos hq,decide_eq_true hq,Bool.or_true,if_pos rfl]
 ·rw [if_neg hq,decide_eq_false hq,Bool.or_false]
theorem SB.congr {es:List (V × V)} {p q:aX -> Bool} (hs:SB E es p) (e:∀ k,p k = q k):SB E es q:=by
 rwa [show p = q from funext e] at hs
theorem Fg (h:bK E) {Z:Sg} {x:V} {es:List (V × V)} {p:aX -> Bool} (hx:entriesOf Z x = some es) (hs:SB E es p) (k:aX):lookup E Z 98 x (.str k) false = some (.bool (p k)):=by
 have hk:dS E 9 (.str k) = true:=by unfold dS; rw [h.c_]
 unfold Ax.lookup
 simp only [h.AX,h.DB,hk,hx,hs.2 k,Bool.not_true,Bool.false_eq_true,if_false]
 cases p k <;> rfl
theorem MF (h:bK E) {Z:Sg} {b:Nat} {es:List (V × V)} {p:aX -> Bool} (hb:Z[b]? = some (.map es)) (hs:SB E es p) (k:aX):∃ es',mapUpdate E Z 98 (.mp b) (.str k) (.bool true) = some (Z.set b (.map es')) /\ SB E es' fun q=>p q || decide (q = k):=by
 obtain ⟨es',h1,h2⟩:=S9 h hs k
 have hk:dS E 9 (.str k) = true:=by unfold dS; rw [h.c_]
 refine ⟨es',?_,h2⟩
 unfold Ax.mapUpdate
 simp only [h.AX,hk,hb,h1,eY,V.a_,Bool.not_true,Bool.or_self,Bool.false_eq_true,if_false,Option.map_some]
theorem K2 (h:bK E) {Z:Sg} {b m:Nat} {es:List (V × V)} {get:aX -> Option V} (hb:Z[b]? = some (.map es)) (hs:SM E es get):bP Z E.ty true (m + 2) (.mp b) = some (.imp true es):=by
 rw [bP]
 simp only [hb]
 rw [iU fun e he=>?_]
 obtain ⟨⟨k,e1⟩,e2⟩:=hs.1 e he
 obtain ⟨a,v⟩:=e
 dsimp only at e1 e2
 subst e1
 have e3:bP Z E.ty true (m + 1) v = some v:=jR e2
 have e4:=cE e2
 have hpc:(V.str k).cells.all Ax.plainCell = true:=rfl
 cases v <;> first
  | (simp only [hpc,e3,e4,if_true]; done)
  | cases e2
theorem DH (h:bK E) {Z:Sg} {f k b t:Nat} {ex:Bool} {es:List (V × V)} {get:aX -> Option V} (hk:Z[k]? = some (.cells t [.mp b] ex)) (hb:Z[b]? = some (.map es)) (hs:SM E es get):aV Z E.ty true (.fn f [] [.ref k 0]) = some (.fn f [] [.dU true [.imp true es]]):=by
 refine vS hk ?_
 simp only [aW,K2 (m:=9) h hb hs,show cF true (V.imp true es) = true from rfl,if_true]
theorem Pf (h:bK E) {es:List (V × V)} {p:aX -> Bool} {y:aX} {g g2:Bool} (hs:SB E es p):aB E 145 [.str y,.dU g [.imp g2 es]] [] K = K (.bool (p y)) []:=by
 refine aB.of ?_
 have hi:Ax.bE (.dU g [.imp g2 es]) = true:=rfl
 have ew:=dG (Z:=[]) (ty:=E.ty) hi (cE hi)
 rw [aH h.XM h.Vf h.Yx h.WO (args':=[.str y,.dU g [.imp g2 es]]) (by simp only [aW,dA,ew]),aZ (by kernel_rfl)]
 have hl:=fun Z=>Fg (Z:=Z) (x:=.imp g2 es) h rfl hs y
 simp only [aA,Tryz.f145,KP,Ax.loadAt,↓reduceIte,reduceEqDiff,reduceLT,reduceAdd,reduceCtorEq,h.AX,hl]
 exact rfl
theorem Pe (h:bK E) {es:List (V × V)} {p:aX -> Bool} {y:aX} {g g2:Bool} (hs:SB E es p):aB E 146 [.str y,.dU g [.imp g2 es]] [] K = K (.bool (!p y)) []:=by
 refine aB.of ?_
 have hi:Ax.bE (.dU g [.imp g2 es]) = true:=rfl
 have ew:=dG (Z:=[]) (ty:=E.ty) hi (cE hi)
 rw [aH h.XL h.Ve h.Yw h.WN (args':=[.str y,.dU g [.imp g2 es]]) (by simp only [aW,dA,ew]),aZ (by kernel_rfl)]
 have hl:=fun Z=>Fg (Z:=Z) (x:=.imp g2 es) h rfl hs y
 simp only [aA,Tryz.f146,KP,Ax.loadAt,↓reduceIte,reduceEqDiff,reduceLT,reduceAdd,reduceCtorEq,h.AX,hl]
 exact rfl
end
end
section
section
variable {E:Env} {Z:Sg} {K:V -> Sg -> Prop}
structure nF (E:Env) (Y:Sg) (kr ko mr mo:Nat) (p1 p2:aX -> Bool):Prop where
 b1:Y[kr]? = some (.cells 98 [.mp mr] true)
 b2:Y[ko]? = some (.cells 98 [.mp mo] true)
 m1:∃ es,Y[mr]? = some (.map es) /\ SB E es p1
 m2:∃ es,Y[mo]? = some (.map es) /\ SB E es p2
 ne:mr ≠ mo
theorem nF.app {Y:Sg} {kr ko mr mo:Nat} {p1 p2:aX -> Bool} (h:nF E Y kr ko mr mo p1 p2) (y:O):nF E (Y ++ [y]) kr ko mr mo p1 p2:=by
 obtain ⟨e1,h1,s1⟩:=h.m1
 obtain ⟨e2,h2,s2⟩:=h.m2
 exact ⟨aN h.b1,aN h.b2,⟨e1,aN h1,s1⟩,⟨e2,aN h2,s2⟩,h.ne⟩
theorem pG {Y:Sg} {i j:Nat} {x y:O} (h1:Y[i]? = some x) (h2:Y[j]? = some y) (h:x ≠ y):i ≠ j:=fun e=>h (by rw [e,h2] at h1; exact (Option.some.inj h1).symm)
theorem nF.Tf {Y:Sg} {kr ko mr mo:Nat} {p1 p2 q1:aX -> Bool} {es:List (V × V)} (h:nF E Y kr ko mr mo p1 p2) (hs:SB E es q1):nF E (Y.set mr (.map es)) kr ko mr mo q1 p2:=by
 obtain ⟨e1,h1,s1⟩:=h.m1
 obtain ⟨e2,h2,s2⟩:=h.m2
 have n1:=pG h1 h.b1 (by intro e; cases e)
 have n2:=pG h1 h.b2 (by intro e; cases e)
 exact ⟨by rw [getElem?_set_ne n1]; exact h.b1,by rw [getElem?_set_ne n2]; exact h.b2,⟨es,by rw [getElem?_set_self (List.getElem?_eq_some_iff.1 h1).1],hs⟩,⟨e2,by rw [getElem?_set_ne h.ne]; exact h2,s2⟩,h.ne⟩
theorem nF.put2 {Y:Sg} {kr ko mr mo:Nat} {p1 p2 q2:aX -> Bool} {es:List (V × V)} (h:nF E Y kr ko mr mo p1 p2) (hs:SB E es q2):nF E (Y.set mo (.map es)) kr ko mr mo p1 q2:=by
 obtain ⟨e1,h1,s1⟩:=h.m1
 obtain ⟨e2,h2,s2⟩:=h.m2
 have n1:=pG h2 h.b1 (by intro e; cases e)
 have n2:=pG h2 h.b2 (by intro e; cases e)
 exact ⟨by rw [getElem?_set_ne n1]; exact h.b1,by rw [getElem?_set_ne n2]; exact h.b2,⟨e1,by rw [getElem?_set_ne (Ne.symm h.ne)]; exact h1,s1⟩,⟨es,by rw [getElem?_set_self (List.getElem?_eq_some_iff.1 h2).1],hs⟩,h.ne⟩
def iB (rs:List aG) (k:aX):Bool:=rs.any fun q=>decide (q.name = k)
def vG (rs:List aG) (k:aX):Bool:=rs.any fun q=>decide (k ∈ q.outs)
theorem tH {rs:List aG} {n:aX}:decide (fP rs n = none) = !iB rs n:=by
 unfold fP iB
 rw [<- cB]
 cases bQ (fun r=>decide (r.name = n)) rs <;> rfl
theorem C1 {rs:List aG} {i:Nat} {r:aG} (hr:rs[i]? = some r):nU rs i = (iB (rs.take i) r.name || r.outs.any (vG (rs.take i))):=by
 unfold nU iB vG
 rw [hr,Bool.eq_iff_iff]
 simp only [List.any_eq_true,Bool.or_eq_true,decide_eq_true_eq]
 constructor
 ·rintro ⟨q,hq,e | ⟨x,hx,e⟩⟩
  ·exact .inl ⟨q,hq,e⟩
  ·exact .inr ⟨x,hx,q,hq,e⟩
 ·rintro (⟨q,hq,e⟩ | ⟨x,hx,q,hq,e⟩)
  ·exact ⟨q,hq,.inl e⟩
  ·exact ⟨q,hq,.inr ⟨x,hx,e⟩⟩
theorem GC {rs:List aG} {i:Nat} {r:aG} (hr:rs[i]? = some r) (k:aX):iB (rs.take (i + 1)) k = (iB (rs.take i) k || decide (k = r.name)):=by
 unfold iB
 rw [pA hr,decide_eq_decide.2 ⟨Eq.symm,Eq.symm⟩]
theorem Iw {rs:List aG} {i:Nat} {r:aG} (hr:rs[i]? = some r) (k:aX):vG (rs.take (i + 1)) k = (vG (rs.take i) k || decide (k ∈ r.outs)):=pA hr
theorem V4 (h:bK E) {a:V} {rs:List aG} (ia:IS dZ a rs) (hs:∀ x ∈ rs,Small x) (hE:gF rs = if gJ rs = true then 2 else 0) (hl:rs.length <= 4294967296) {Y:Sg} {kr ko mr mo:Nat} {p2:aX -> Bool} (bx:nF E Y kr ko mr mo (iB rs) p2) (F:FT) (g0:F.get 0 = a) (g7:F.get 7 = .ref kr 0) (hk:∀ nm σ',K (.fZ [.int .i64 (gF rs),.str nm]) σ') :
  R E (cutAt [1,1,1,1,1] (aA Tryz.f108).code) [] ⟨81,F⟩ Y (mD E (aA Tryz.f108).results K):=by
 have la:=cV h ia
 have d28:=h.Rw
 simp only [aA,Tryz.f108,cutAt,Option.getD_some] at d28
 simp only [aA,Tryz.f108,KP,↓reduceIte,reduceLT,cutAt,g0,la]
 refine aU (fun i F Y=>F.get 7 = .ref kr 0 /\ F.get 68 = a /\ F.get 69 = .int .i64 (rs.length:Int) /\ F.get 70 = .int .i64 (i:Int) /\ nF E Y kr ko mr mo (iB rs) p2 /\ ∀ (j:Nat) (r:aG),j < i -> rs[j]? = some r -> r.after.any (fun n=>!iB rs n) = false) rs.length ?_ ?_ rs.length 0 _ _ (by omega) (gY (by simp +decide only [GS,g7,and_self]) ⟨bx,fun j r hj=>by omega⟩)
 ·rintro i F Y hi ⟨g7,g68,g69,g70,bx,hp⟩ next
  obtain ⟨r,hr⟩:∃ y,rs[i]? = some y:=⟨_,List.getElem?_eq_getElem hi⟩
  obtain ⟨g,p1,p2',p3,p4,e1,i1,i2,i3,i4⟩:=fD h ia hr
  have hsm:=hs r (mem_of_getElem? hr)
  have a3:=hsm.after
  have o1:=aL i1.bE
  have o2:=aL i2.bE
  have o3:=aL i3.bE
  have o4:=aL i4.bE
  have hlt:=eE hi
  have hadd:=bY i (by omega)
  have bx1:=bx.app (O.cells 37 [.str r.name,p1,p2',p3,p4] true)
  have s1:(Y ++ [O.cells 37 [.str r.name,p1,p2',p3,p4] true])[Y.length]? = some (O.cells 37 [.str r.name,p1,p2',p3,p4] true):=aO
  rw [aF]
  simp only [KP,Ax.loadAt,Ax.storeAt,↓reduceIte,reduceEqDiff,reduceLT,reduceAdd,reduceCtorEq,h.bB,h.bJ,g7,g68,g69,g70,hlt,e1,o1,o2,o3,o4,aO,cH]
  generalize Y ++ [O.cells 37 [.str r.name,p1,p2',p3,p4] true] = τ1 at *
  generalize Y.length = y at *
  obtain ⟨es,hm,hsb⟩:=bx1.m1
  have ef:=DH (f:=146) h bx1.b1 hm hsb
  have kf:=dN (fun K=>qZ (Z:=τ1) (K:=K) (k:=146) (caps:=[.dU true [.imp true es]]) (P:=fun n=>!iB rs n) h (i3.ls τ1 9) (by omega) (fun c hc=>by cases hc with | head=>rfl | tail _ hc=>cases hc) (fun y v hy hv=>by
   subst hv
   show aB E 146 [.str y,.dU true [.imp true es]] [] _
   rw [Pe h hsb]; exact ⟨rfl,rfl⟩) ef)
  cases m:r.after.any fun n=>!iB rs n with
  | true=>
   have hstr:gJ rs = true:=by
    unfold gJ
    refine List.any_eq_true.2 ⟨r,mem_of_getElem? hr,?_⟩
    rw [<- m]
    exact congrArg (fun f=>r.after.any f) (funext fun n=>tH)
   rw [hE,if_pos hstr] at hk
   simp only [KP,Ax.loadAt,↓reduceIte,reduceEqDiff,reduceLT,reduceCtorEq,h.c_,h.bJ,s1,kf,m,aT d28,bM]
   exact hk _ _
  | false=>
  simp only [KP,↓reduceIte,reduceEqDiff,reduceLT,g70,kf,m,hadd]
  refine next _ _ (gY (by simp +decide only [GS,g7,g68,g69,and_self]) ⟨bx1,fun j q hj hq=>?_⟩)
  rcases Nat.lt_or_ge j i with g | g
  ·exact hp j q g hq
  ·obtain rfl:j = i:=by omega
   rw [hr] at hq; cases hq; exact m
 ·rintro F Y ⟨g7,g68,g69,g70,bx,hp⟩
  have hstr:gJ rs = false:=by
   unfold gJ
   refine List.any_eq_false.2 fun r hr=>?_
   obtain ⟨j,hj,e⟩:=List.getElem_of_mem hr
   have:=hp j r hj (by rw [List.getElem?_eq_getElem hj,e])
   rw [show (r.after.any fun n=>decide (fP rs n = none)) = r.after.any fun n=>!iB rs n from congrArg (fun f=>r.after.any f) (funext fun n=>tH),this]
   simp
  rw [hE,if_neg (by rw [hstr]; simp)] at hk
  have hlt:=eF (Nat.lt_irrefl rs.length)
  rw [aF]
  simp only [KP,↓reduceIte,reduceEqDiff,reduceLT,kV,g69,g70,hlt]
  exact hk _ _
end
end
section
section
variable {E:Env} {Z:Sg} {K:V -> Sg -> Prop}
theorem nF.congr {Y:Sg} {kr ko mr mo:Nat} {p1 p2 q1 q2:aX -> Bool} (h:nF E Y kr ko mr mo p1 p2) (e1:∀ k,p1 k = q1 k) (e2:∀ k,p2 k = q2 k):nF E Y kr ko mr mo q1 q2:=by
 rwa [show p1 = q1 from funext e1,show p2 = q2 from funext e2] at h
theorem V3 (h:bK E) {a:V} {rs:List aG} (ia:IS dZ a rs) (hs:∀ x ∈ rs,Small x) (hE:gF rs = if sH rs = true then 2 else if gJ rs = true then 2 else 0) (hl:rs.length <= 4294967296) {Y:Sg} {kr ko mr mo:Nat} (bx:nF E Y kr ko mr mo (fun _=>false) (fun _=>false)) (F:FT) (g0:F.get 0 = a) (g7:F.get 7 = .ref kr 0) (g8:F.get 8 = .ref ko 0) (hk:∀ nm σ',K (.fZ [.int .i64 (gF rs),.str nm]) σ') :
  R E (cutAt [1,1,1,1] (aA Tryz.f108).code) [] ⟨81,F⟩ Y (mD E (aA Tryz.f108).results K):=by
 have la:=cV h ia
 have key:=fun (hE':gF rs = if gJ rs = true then 2 else 0) Y p2 bx F g0 g7=>V4 (K:=K) (Y:=Y) (kr:=kr) (ko:=ko) (mr:=mr) (mo:=mo) (p2:=p2) h ia hs hE' hl bx F g0 g7 hk
 rw [show cutAt [1,1,1,1] (aA Tryz.f108).code = .seq (cutAt [1,1,1,1,0] (aA Tryz.f108).code) (cutAt [1,1,1,1,1] (aA Tryz.f108).code) from rfl]
 have d16:=h.Rx
 simp only [aA,Tryz.f108,cutAt,Option.getD_some] at d16
 generalize cutAt [1,1,1,1,1] (aA Tryz.f108).code = C at key ⊢
 simp only [aA,Tryz.f108,KP,↓reduceIte,reduceLT,cutAt,g0,la]
 refine aU (fun i F Y=>F.get 0 = a /\ F.get 7 = .ref kr 0 /\ F.get 8 = .ref ko 0 /\ F.get 35 = a /\ F.get 36 = .int .i64 (rs.length:Int) /\ F.get 37 = .int .i64 (i:Int) /\ nF E Y kr ko mr mo (iB (rs.take i)) (vG (rs.take i)) /\ ∀ j,j < i -> nU rs j = false) rs.length ?_ ?_ rs.length 0 _ _ (by omega) (yP (by simp +decide only [GS,g0,g7,g8,and_self]) ⟨bx,fun j hj=>by omega⟩)
 ·rintro i F Y hi ⟨g0,g7,g8,g35,g36,g37,bx,hp⟩ next
  obtain ⟨r,hr⟩:∃ y,rs[i]? = some y:=⟨_,List.getElem?_eq_getElem hi⟩
  obtain ⟨g,p1,p2',p3,p4,e1,i1,i2,i3,i4⟩:=fD h ia hr
  have hsm:=hs r (mem_of_getElem? hr)
  have a2:=hsm.outs
  have o1:=aL i1.bE
  have o2:=aL i2.bE
  have o3:=aL i3.bE
  have o4:=aL i4.bE
  have hlt:=eE hi
  have hadd:=bY i (by omega)
  have lo:=bO h i2
  have bx1:=bx.app (O.cells 37 [.str r.name,p1,p2',p3,p4] true)
  have s1:(Y ++ [O.cells 37 [.str r.name,p1,p2',p3,p4] true])[Y.length]? = some (O.cells 37 [.str r.name,p1,p2',p3,p4] true):=aO
  rw [aF]
  simp only [KP,Ax.loadAt,Ax.storeAt,↓reduceIte,reduceEqDiff,reduceLT,reduceAdd,h.bJ,h.AX,g7,g8,g35,g36,g37,hlt,e1,o1,o2,o3,o4,aO,cH]
  generalize Y ++ [O.cells 37 [.str r.name,p1,p2',p3,p4] true] = τ1 at *
  generalize Y.length = y at *
  obtain ⟨es1,hm1,hsb1⟩:=bx1.m1
  obtain ⟨es2,hm2,hsb2⟩:=bx1.m2
  have bb1:=bx1.b1
  have ef:=DH (f:=145) h bx1.b2 hm2 hsb2
  have kf:=dN (fun K=>qZ (Z:=τ1) (K:=K) (k:=145) (caps:=[.dU true [.imp true es2]]) (P:=vG (rs.take i)) h (i2.ls τ1 9) (by omega) (fun c hc=>by cases hc with | head=>rfl | tail _ hc=>cases hc) (fun y v hy hv=>by
   subst hv
   show aB E 145 [.str y,.dU true [.imp true es2]] [] _
   rw [Pf h hsb2]; exact ⟨rfl,rfl⟩) ef)
  have hlk:=Fg (Z:=τ1) (x:=.mp mr) h (by unfold entriesOf; simp only [hm1]) hsb1 r.name
  have hcl:=C1 hr
  have yes:nU rs i = true -> gF rs = 2:=fun e=>by
   rw [hE,if_pos]
   exact List.any_eq_true.2 ⟨i,mem_range.2 hi,e⟩
  cases m1:iB (rs.take i) r.name with
  | true=>
   rw [m1,Bool.true_or] at hcl
   rw [yes hcl] at hk
   simp only [KP,Ax.loadAt,↓reduceIte,reduceEqDiff,reduceLT,reduceCtorEq,h.c_,h.bJ,s1,bb1,hlk,m1,aT d16,bM]
   exact hk _ _
  | false=>
  rw [m1,Bool.false_or] at hcl
  cases m2:r.outs.any (vG (rs.take i)) with
  | true=>
   rw [m2] at hcl
   rw [yes hcl] at hk
   simp only [KP,Ax.loadAt,↓reduceIte,reduceEqDiff,reduceLT,reduceCtorEq,h.c_,h.bB,h.bJ,s1,bb1,hlk,kf,m1,m2,aT d16,bM]
   exact hk _ _
  | false=>
  rw [m2] at hcl
  obtain ⟨es1',hu,hsb1'⟩:=MF h hm1 hsb1 r.name
  have bx2:=bx1.Tf hsb1'
  have ny:mr ≠ y:=pG hm1 s1 (by intro e; cases e)
  have s2:(τ1.set mr (.map es1'))[y]? = some (O.cells 37 [.str r.name,p1,p2',p3,p4] true):=by rw [getElem?_set_ne ny]; exact s1
  simp only [KP,Ax.loadAt,↓reduceIte,reduceEqDiff,reduceLT,reduceCtorEq,h.c_,h.bB,h.bJ,h.AX,g7,s1,bb1,hlk,kf,m1,m2,hu,s2,lo]
  refine aU (fun j F Y=>F.get 0 = a /\ F.get 7 = .ref kr 0 /\ F.get 8 = .ref ko 0 /\ F.get 35 = a /\ F.get 36 = .int .i64 (rs.length:Int) /\ F.get 37 = .int .i64 (i:Int) /\ F.get 58 = p2' /\ F.get 59 = .int .i64 (r.outs.length:Int) /\ F.get 60 = .int .i64 (j:Int) /\ nF E Y kr ko mr mo (fun k=>iB (rs.take i) k || decide (k = r.name)) (fun k=>vG (rs.take i) k || decide (k ∈ r.outs.take j))) r.outs.length ?_ ?_ r.outs.length 0 _ _ (by omega) (vO (by simp +decide only [GS,g0,g7,g8,g35,g36,g37,and_self]) (bx2.congr (fun _=>rfl) (fun k=>by simp)))
  ·rintro j F Y hj ⟨g0,g7,g8,g35,g36,g37,g58,g59,g60,bx⟩ next2
   obtain ⟨s,hsj⟩:∃ y,r.outs[j]? = some y:=⟨_,List.getElem?_eq_getElem hj⟩
   obtain ⟨g',e2⟩:=gG h i2 hsj
   have hlt2:=eE hj
   have hadd2:=bY j (by omega)
   obtain ⟨es3,hm3,hsb3⟩:=bx.m2
   obtain ⟨es3',hu3,hsb3'⟩:=MF h hm3 hsb3 s
   have bb2:=bx.b2
   rw [aF]
   simp only [KP,Ax.loadAt,↓reduceIte,reduceEqDiff,reduceLT,h.c_,h.AX,g8,g58,g59,g60,hlt2,e2,bb2,hu3,hadd2]
   refine next2 _ _ (vO (by simp +decide only [GS,g0,g7,g8,g35,g36,g37,g58,g59,and_self]) ((bx.put2 hsb3').congr (fun _=>rfl) (fun k=>?_)))
   rw [take_add_one,hsj,Bool.or_assoc,Bool.eq_iff_iff]
   simp
  ·rintro F Y ⟨g0,g7,g8,g35,g36,g37,g58,g59,g60,bx⟩
   rw [take_of_length_le (Nat.le_refl _)] at bx
   have hlt2:=eF (Nat.lt_irrefl r.outs.length)
   rw [aF]
   simp only [KP,↓reduceIte,reduceEqDiff,reduceLT,g37,g59,g60,hlt2,hadd]
   refine next _ _ (yP (by simp +decide only [GS,g0,g7,g8,g35,g36,and_self]) ⟨bx.congr (fun k=>(GC hr k).symm) (fun k=>(Iw hr k).symm),fun j hj=>?_⟩)
   rcases Nat.lt_or_ge j i with g | g
   ·exact hp j g
   ·obtain rfl:j = i:=by omega
    exact hcl
 ·rintro F Y ⟨g0,g7,g8,g35,g36,g37,bx,hp⟩
  have hcl:sH rs = false:=List.any_eq_false.2 fun j hj=>by rw [hp j (mem_range.1 hj)]; simp
  rw [if_neg (by rw [hcl]; simp)] at hE
  rw [take_of_length_le (Nat.le_refl _)] at bx
  have hlt:=eF (Nat.lt_irrefl rs.length)
  rw [aF]
  simp only [KP,↓reduceIte,reduceLT,g36,g37,hlt]
  exact key hE _ _ bx _ (by simp +decide only [GS,g0]) (by simp +decide only [GS,g7])
end
end
section
section
variable {E:Env} {Z:Sg} {K:V -> Sg -> Prop}
theorem uR {Y:Sg} {a b c d:O} {n:Nat}:(Y ++ [a] ++ [b] ++ [c] ++ [d])[Y.length + n]? = [a,b,c,d][n]?:=by
 rw [append_assoc,append_assoc,append_assoc,List.getElem?_append_right (by omega),Nat.add_sub_cancel_left]
 rfl
theorem ON {Y:Sg} {a b c d x:O}:(Y ++ [a] ++ [b] ++ [c] ++ [d]).set (Y.length + 2) x = Y ++ [a] ++ [b] ++ [x] ++ [d]:=by
 rw [append_assoc,append_assoc,append_assoc,List.set_append_right _ _ (by omega),Nat.add_sub_cancel_left,append_assoc,append_assoc,append_assoc]
 rfl
theorem LL {Y:Sg} {a b c d x:O}:(Y ++ [a] ++ [b] ++ [c] ++ [d]).set (Y.length + 3) x = Y ++ [a] ++ [b] ++ [c] ++ [x]:=by
 rw [append_assoc,append_assoc,append_assoc,List.set_append_right _ _ (by omega),Nat.add_sub_cancel_left,append_assoc,append_assoc,append_assoc]
 rfl
theorem IP {Y:Sg} {a b c:O}:(Y ++ [a]).length = Y.length + 1 /\ (Y ++ [a] ++ [b]).length = Y.length + 2 /\ (Y ++ [a] ++ [b] ++ [c]).length = Y.length + 3:=by simp
theorem KD (h:bK E) {a:V} {rs:List aG} (ha:LS dZ 37 Z a rs) (hs:∀ x ∈ rs,Small x) (hl:rs.length <= 4294967296):aB E 108 [a] Z fun v σ'=>σ' = Z /\ ∃ nm,v = .fZ [.int .i64 (gF rs),.str nm]:=by
 obtain ⟨a',ea,ia⟩:=eT h ha
 rw [aH h.XV h.Vo h.YG h.WY (args':=[a']) (by simp only [aW,ea]),aZ (by kernel_rfl)]
 have la:=cV h ia
 have key:=fun hE Y kr ko mr mo bx F g0 g7 g8=>V3 (K:=fun v σ1=>match cP σ1 E.ty false v with
   | some v=>∃ nm,v = .fZ [.int .i64 (gF rs),.str nm]
   | none=>False) (Y:=Y) (kr:=kr) (ko:=ko) (mr:=mr) (mo:=mo) h ia hs hE hl bx F g0 g7 g8 (fun nm σ'=>⟨nm,rfl⟩)
 rw [show (aA Tryz.f108).code = .seq (cutAt [0] (aA Tryz.f108).code) (.seq (cutAt [1,0] (aA Tryz.f108).code) (.seq (cutAt [1,1,0] (aA Tryz.f108).code) (.seq (cutAt [1,1,1,0] (aA Tryz.f108).code) (cutAt [1,1,1,1] (aA Tryz.f108).code)))) from rfl]
 have d6:=h.T1
 simp only [aA,Tryz.f108,cutAt,Option.getD_some] at d6
 generalize cutAt [1,1,1,1] (aA Tryz.f108).code = C at key ⊢
 simp only [aA,Tryz.f108,KP,↓reduceIte,reduceLT,reduceCtorEq,kV,cutAt,la]
 refine aU (fun i F Y=>F.get 0 = a' /\ F.get 16 = a' /\ F.get 17 = .int .i64 (rs.length:Int) /\ F.get 18 = .int .i64 (i:Int) /\ ∀ (j:Nat) (r:aG),j < i -> rs[j]? = some r -> bA r = 0) rs.length ?_ ?_ rs.length 0 _ _ (by omega) (gY (by simp +decide only [GS,and_self]) (fun j r hj=>by omega))
 ·rintro i F Y hi ⟨g0,g16,g17,g18,hp⟩ next
  obtain ⟨r,hr⟩:∃ y,rs[i]? = some y:=⟨_,List.getElem?_eq_getElem hi⟩
  obtain ⟨g,p1,p2,p3,p4,e1,i1,i2,i3,i4⟩:=fD h ia hr
  have hsm:=hs r (mem_of_getElem? hr)
  have o1:=aL i1.bE
  have o2:=aL i2.bE
  have o3:=aL i3.bE
  have o4:=aL i4.bE
  have hlt:=eE hi
  have hadd:=bY i (by omega)
  have s1:(Y ++ [O.cells 37 [.str r.name,p1,p2,p3,p4] true])[Y.length]? = some (O.cells 37 [.str r.name,p1,p2,p3,p4] true):=aO
  have kr:=fun (Y:Sg)=>QW (Z:=Y) h (v:=.agg [.str r.name,p1,p2,p3,p4]) ⟨p1,p2,p3,p4,rfl,i1,i2,i3,i4⟩ hsm
  rw [aF]
  simp only [KP,Ax.loadAt,Ax.storeAt,↓reduceIte,reduceEqDiff,reduceLT,reduceAdd,h.bJ,g16,g17,g18,hlt,e1,o1,o2,o3,o4,aO,cH]
  generalize Y ++ [O.cells 37 [.str r.name,p1,p2,p3,p4] true] = τ1 at *
  generalize Y.length = y at *
  by_cases he:bA r = 0
  ·have q:=decide_eq_true he
   simp only [KP,↓reduceIte,reduceEqDiff,reduceLT,g18,kr,q,hadd]
   refine next _ _ (gY (by simp +decide only [GS,g0,g16,g17,and_self]) (fun j x hj hx=>?_))
   rcases Nat.lt_or_ge j i with g | g
   ·exact hp j x g hx
   ·obtain rfl:j = i:=by omega
    rw [hr] at hx; cases hx; exact he
  ·have q:=decide_eq_false he
   rw [zZ hr he fun j s hj hx=>hp j s hj hx]
   simp only [KP,Ax.loadAt,↓reduceIte,reduceEqDiff,reduceLT,reduceCtorEq,h.c_,h.bJ,s1,kr,q,aT d6,bM]
   exact ⟨r.name,rfl⟩
 ·rintro F Y ⟨g0,g16,g17,g18,hp⟩
  have hE:=yH fun j s hx=>hp j s (List.getElem?_eq_some_iff.1 hx).1 hx
  have hlt:=eF (Nat.lt_irrefl rs.length)
  rw [aF]
  by_cases h40:40 < rs.length
  ·have q:decide ((40:Int) < (rs.length:Int)) = true:=decide_eq_true (by omega)
   rw [if_pos h40] at hE
   rw [hE]
   simp only [KP,↓reduceIte,reduceEqDiff,reduceLT,reduceCtorEq,kV,g0,g17,g18,hlt,la,q]
   exact ⟨[],rfl⟩
  ·have q:decide ((40:Int) < (rs.length:Int)) = false:=decide_eq_false (by omega)
   rw [if_neg h40] at hE
   have n1:=(IP (Y:=Y) (a:=.map []) (b:=.map []) (c:=.cells 98 [.bU] true)).1
   have n2:=(IP (Y:=Y) (a:=.map []) (b:=.map []) (c:=.cells 98 [.bU] true)).2.1
   have n3:=(IP (Y:=Y) (a:=.map []) (b:=.map []) (c:=.cells 98 [.bU] true)).2.2
   have q1:(Y ++ [O.map []] ++ [O.map []] ++ [O.cells 98 [.bU] true] ++ [O.cells 98 [.bU] true])[Y.length + 2]? = some (O.cells 98 [.bU] true):=uR
   have q2:(Y ++ [O.map []] ++ [O.map []] ++ [O.cells 98 [.mp Y.length] true] ++ [O.cells 98 [.bU] true])[Y.length + 3]? = some (O.cells 98 [.bU] true):=uR
   simp only [KP,Ax.storeAt,↓reduceIte,reduceEqDiff,reduceLT,reduceCtorEq,h.AX,g0,g17,g18,hlt,la,q,n1,n2,n3,q1,q2,ON,LL]
   refine key hE _ (Y.length + 2) (Y.length + 3) Y.length (Y.length + 1) ⟨uR,uR,⟨[],uR (n:=0),Nv⟩,⟨[],uR,Nv⟩,by omega⟩ _ ?_ ?_ ?_
   ·exact (by simp +decide only [GS,g0])
   ·exact (by simp +decide only [GS])
   ·exact (by simp +decide only [GS])
end
end
section
section
variable {E:Env} {Z:Sg} {K:V -> Sg -> Prop}
theorem Ee {lt:List V -> List V -> Bool} (x:List V):∀ l,(CA lt x l).Perm (x :: l)
 | []=>.refl _
 | y :: r=>by
  rw [CA]
  split
  ·exact .refl _
  ·exact ((Ee x r).cons y).trans (.swap x y r)
theorem CG {lt:List V -> List V -> Bool}:∀ (l acc:List (List V)),(l.foldl (fun acc x=>CA lt x acc) acc).Perm (l ++ acc)
 | [],acc=>.refl _
 | x :: l,acc=>by
  rw [List.foldl_cons]
  refine (CG l _).trans ?_
  exact ((Ee x acc).append_left l).trans List.perm_middle
theorem Ih {lt:List V -> List V -> Bool} (l:List (List V)):(kH lt l).Perm l:=by
 have:=CG (lt:=lt) l []
 rwa [List.append_nil] at this
def FV:List V -> aX
 | [.str s]=>s
 | _=>[]
theorem Bp:∀ {rs:List (List V)} {l:List aX},eS aM.P rs l -> rs = l.map fun s=>[V.str s]
 | _,_,.nil=>rfl
 | _,_,.cons h t=>by rw [map_cons,Bp t,show _ = [V.str _] from h]
theorem zF:∀ l:List aX,eS aM.P (l.map fun s=>[V.str s]) l
 | []=>.nil
 | _ :: l=>.cons rfl (zF l)
theorem zW:∀ l:List aX,((l.map fun s=>[V.str s]).flatten).map (fun v=>[v]) = l.map fun s=>[V.str s]
 | []=>rfl
 | s :: l=>by simp only [map_cons,List.flatten_cons,List.map_append,zW l]; rfl
theorem AU:∀ {l:List aX},(∀ s ∈ l,s.length <= 9223372036854775807) -> allRows kB (l.map fun s=>[V.str s]) = true
 | [],_=>rfl
 | s :: l,h=>by
  have h1:kB [V.str s] = true:=Nat.ble_eq_true_of_le (h s (mem_cons_self ..))
  rw [map_cons,allRows,h1]
  exact AU fun x hx=>h x (mem_cons_of_mem _ hx)
theorem DA:∀ {rows:List (List V)},(∀ r ∈ rows,∃ s,r = [V.str s]) -> rows = (rows.map FV).map fun s=>[V.str s]
 | [],_=>rfl
 | r :: rows,h=>by
  obtain ⟨s,e⟩:=h r (mem_cons_self ..)
  rw [map_cons,map_cons,<- DA fun x hx=>h x (mem_cons_of_mem _ hx),e]
  rfl
theorem Eh {Z:Sg} {w:V} {l:List aX} (ow:bD aM 9 Z w l) (hl:l.length <= 1000000) (hs:∀ s ∈ l,s.length <= 9223372036854775807):∃ σ' l',oP 9 [w] Z = some (.fZ [],σ') /\ l'.Perm l /\ bD aM 9 σ' w l' /\ Sp Z σ' w /\ σ'.length = Z.length:=by
 rcases ow with ⟨rfl,rfl⟩ | ⟨b,rs,ex,rfl,hb,ha⟩
 ·exact ⟨Z,[],rfl,.refl _,.inl ⟨rfl,rfl⟩,Sp.refl _ _,rfl⟩
 ·obtain rfl:=Bp ha
  have hp:(kH strLt (l.map fun s=>[V.str s])).Perm (l.map fun s=>[V.str s]):=Ih _
  have he:((kH strLt (l.map fun s=>[V.str s])).map FV).Perm l:=by
   have:=hp.map FV
   rwa [List.map_map,show FV ∘ (fun s=>[V.str s]) = id from rfl,List.map_id] at this
  have hr:kH strLt (l.map fun s=>[V.str s]) = ((kH strLt (l.map fun s=>[V.str s])).map FV).map fun s=>[V.str s]:=by
   refine DA fun r hr=>?_
   obtain ⟨s,-,e⟩:=mem_map.1 (hp.mem_iff.1 hr)
   exact ⟨s,e.symm⟩
  have hlen:((l.map fun s=>[V.str s]).flatten).length = l.length:=by
   have:=congrArg List.length (zW l)
   rwa [length_map,length_map] at this
  refine ⟨Z.set b (.cells 9 (kH strLt (l.map fun s=>[V.str s])).flatten ex),_,?_,he,.inr ⟨b,_,ex,?_,?_,zF _⟩,?_,?_⟩
  ·unfold oP
   simp only [hb,zW,AU hs,show Nat.beq 9 9 = true from rfl,hlen,Nat.ble_eq_true_of_le hl,show Nat.beq l.length l.length = true from Nat.beq_refl _]
  ·rw [length_map,hp.length_eq,length_map]
  ·rw [getElem?_set_self (List.getElem?_eq_some_iff.1 hb).1,<- hr]
  ·intro c o hc hn
   rw [getElem?_set_ne (fun e=>hn (by rw [<- e]; rfl))]
   exact hc
  ·rw [length_set]
end
end
section
section
variable {E:Env} {Z:Sg} {K:V -> Sg -> Prop}
def OL (Y:Sg) (v:V) (l:List aX):Prop:=(v = .aC /\ l = []) \/ ∃ b cs ex,v = .sl b 0 l.length none /\ Y[b]? = some (.cells 9 cs ex) /\ cs.take l.length = l.map V.str
theorem CK:∀ l:List aX,(l.map fun s=>[V.str s]).flatten = l.map V.str
 | []=>rfl
 | s :: l=>by simp only [map_cons,List.flatten_cons,CK l]; rfl
theorem GZ (h:bK E) {b off n k:Nat} (hk:k < n):indexAddr E 28 (.sl b off n none) (.int .i64 (k:Int)) = some (.ref b (off + k)):=by
 unfold Ax.indexAddr
 simp only [h.bB,h.c_,show ¬ ((k:Int) < 0) by omega,if_false,Int.toNat_natCast,hk,if_true,Nat.mul_one]
theorem J_ (h:bK E) {Y:Sg} {b j:Nat} {A:List aX} {ex:Bool} {s:aX} (hb:Y[b]? = some (O.cells 9 (A.map V.str) ex)) (hj:A[j]? = some s):loadAt E Y 9 (.ref b j) = some (.str s):=by
 unfold Ax.loadAt
 have e:(A.map V.str)[j]? = some (.str s):=by rw [List.getElem?_map,hj]; rfl
 simp only [h.c_,hb,e,Ax.isAgg]
 rfl
theorem xC:∀ (A:List aX) (j:Nat) (s:aX),j < A.length -> setCells (A.map V.str) j [.str s] = (A.set j s).map V.str
 | [],_,_,h=>absurd h (by simp)
 | a :: A,0,s,_=>rfl
 | a :: A,j + 1,s,h=>by
  have:=xC A j s (by simpa using h)
  simp only [map_cons,List.set_cons_succ,<- this]
  rfl
theorem UJ (h:bK E) {Y:Sg} {b j:Nat} {A:List aX} {ex:Bool} {s:aX} (hb:Y[b]? = some (O.cells 9 (A.map V.str) ex)) (hj:j < A.length):storeAt E Y 9 (.ref b j) (.str s) = some (Y.set b (O.cells 9 ((A.set j s).map V.str) ex)):=by
 unfold Ax.storeAt
 have e:decide (j + 1 <= (A.map V.str).length) = true:=decide_eq_true (by rw [length_map]; omega)
 simp only [h.c_,hb,V.cells,length_cons,length_nil,List.all_cons,List.all_nil,V.a_,e,xC A j s hj]
 rfl
theorem Oj (h:bK E) {Y:Sg} {b off n:Nat}:lenOf E Y 28 (.sl b off n none) = some n:=by unfold lenOf; rw [h.bB]
theorem Kq (h:bK E) {Y:Sg} {b n k:Nat} {A:List aX} {ex:Bool} (hb:Y[b]? = some (O.cells 9 (A.map V.str) ex)) (hn:n = A.length) (hk:k < n):Ax.slice E Y 28 (.sl b 0 n none) (some (.int .i64 (k:Int))) none none = some (.sl b k (n - k) none):=by
 unfold Ax.slice
 simp only [h.bB,h.c_,hb,bound,show decide (0 <= (k:Int)) = true from decide_eq_true (by omega),show decide ((k:Int) <= (n:Int)) = true from decide_eq_true (by omega),Bool.and_self,if_true,Int.toNat_natCast,Nat.zero_add]
 show (if (1:Nat) = 0 then none else if (!(9 == 9)) = true then none else if k * 1 < (A.map V.str).length then some (V.sl b (k * 1) (n - k) none) else _) = _
 rw [if_neg (by decide),if_neg (by decide),if_pos (by rw [length_map]; omega),Nat.mul_one]
theorem PT (h:bK E) {Y:Sg} {b n k:Nat} {cs:List V} {ex:Bool} (hb:Y[b]? = some (.cells 9 cs ex)) (hn:n = cs.length) (hk:k < n):Ax.slice E Y 28 (.sl b 0 n none) none (some (.int .i64 (k:Int))) none = some (.sl b 0 k none):=by
 unfold Ax.slice
 simp only [h.bB,h.c_,hb,bound,FX,show decide (0 <= (k:Int)) = true from decide_eq_true (by omega),Int.toNat_natCast,Nat.zero_mul,Nat.add_zero,Nat.sub_zero,Bool.true_and]
 show (if (1:Nat) = 0 then none else if (!(9 == 9)) = true then none else match if decide ((k:Int) <= ((cs.length / 1:Nat):Int)) = true then some k else none with
  | none=>none
  | some h=>if 0 < cs.length then some (V.sl b 0 h none) else _) = _
 rw [if_neg (by decide),if_neg (by decide),if_pos (by rw [Nat.div_one]; exact decide_eq_true (by omega))]
 show (if 0 < cs.length then some (V.sl b 0 k none) else _) = _
 rw [if_pos (by omega)]
theorem O2 (h:bK E) {Y:Sg} {b n k:Nat} {A:List aX} {ex:Bool} (hb:Y[b]? = some (O.cells 9 (A.map V.str) ex)) (hn:n = A.length) (hk:k < n):∃ cs,Ax.builtin E Y .clear #[28] [.sl b k (n - k) none] = some (.fZ [],Y.set b (.cells 9 cs ex)) /\ cs.take k = (A.take k).map V.str /\ cs.length = n:=by
 have hne:¬ n - k = 0:=by omega
 have hle:decide (k + (n - k) * 1 <= (A.map V.str).length) = true:=decide_eq_true (by rw [length_map]; omega)
 refine ⟨setCells (A.map V.str) k (fQ (n - k) [.str []]),?_,?_,?_⟩
 ·unfold Ax.builtin
  show (match E.ty 28 with
   | some { kd:=.sl e,.. }=>match E.ty e,Y[b]? with
    | some i,some (.cells u cs ex)=>
     if n - k = 0 then some (V.fZ [],Y)
     else if u == e && decide (k + (n - k) * i.size <= cs.length) then some (V.fZ [],Y.set b (.cells u (setCells cs k (fQ (n - k) i.zero.cells)) ex)) else none
    | _,_=>none
   | _=>none) = _
  simp only [h.bB,h.c_,hb,hne,if_false]
  rw [hle]
  rfl
 ·rw [List.map_take]
  clear hle hne
  unfold setCells
  rw [append_assoc,List.take_append_of_le_length (by rw [length_take,length_map]; omega),List.take_take,Nat.min_self]
 ·have hr:∀ m,(fQ m [V.str []]).length = m:=fun m=>by
   induction m with
   | zero=>rfl
   | succ m ih=>rw [fQ,length_append,ih]; simp; omega
  unfold setCells
  simp only [length_append,length_take,List.length_drop,length_map,hr]
  omega
end
end
section
section
variable {E:Env} {Z:Sg} {K:V -> Sg -> Prop}
theorem Sp.set {Z Y:Sg} {w:V} {b:Nat} {y:O} (h:Sp Z Y w) (hb:aQ w = some b):Sp Z (Y.set b y) w:=fun c o hc hn=>by
 rw [getElem?_set_ne (fun e=>hn (by rw [hb,e]))]
 exact h c o hc hn
theorem fL {l:List aX} {k:Nat} {u:aX} (hu:l[k]? = some u) (x:aX):x ∈ l.take (k + 1) ↔ x ∈ l.take k \/ x = u:=by
 rw [take_add_one,hu]; simp
theorem Mm (h:bK E) {w:V} {l:List aX} (ow:bD aM 9 Z w l) (hl:l.length <= 1000000):aB E 110 [w] Z fun v σ'=>(∃ l',OL σ' v l' /\ l'.length <= l.length /\ ∀ x,x ∈ l' ↔ x ∈ l) /\ (∀ c,aQ v = some c -> aQ w = some c) /\ Sp Z σ' w /\ σ'.length = Z.length:=by
 rw [dF h.XT h.Vm h.YE h.WW,aZ (by kernel_rfl)]
 rcases ow with ⟨rfl,rfl⟩ | ⟨b,rs,ex,rfl,hb,ha⟩
 ·have ln:lenOf E Z 28 .aC = some 0:=by unfold lenOf; rw [h.bB]
  simp only [aA,Tryz.f110,KP,↓reduceIte,reduceLT,reduceCtorEq,Int.reduceLT,ln]
  exact ⟨⟨[],.inl ⟨rfl,rfl⟩,Nat.le_refl _,fun x=>Iff.rfl⟩,fun c hc=>hc,Sp.refl _ _⟩
 obtain rfl:=Bp ha
 rw [CK] at hb
 have hls:OL Z (.sl b 0 l.length none) l:=.inr ⟨b,_,ex,rfl,hb,take_of_length_le (by rw [length_map]; exact Nat.le_refl _)⟩
 have lw:∀ Y,lenOf E Y 28 (.sl b 0 l.length none) = some l.length:=fun Y=>Oj h
 by_cases h2:l.length < 2
 ·have q:decide ((l.length:Int) < 2) = true:=decide_eq_true (by omega)
  simp only [aA,Tryz.f110,KP,↓reduceIte,reduceLT,reduceCtorEq,lw,q]
  exact ⟨⟨l,hls,Nat.le_refl _,fun x=>Iff.rfl⟩,fun c hc=>hc,Sp.refl _ _⟩
 have q:decide ((l.length:Int) < 2) = false:=decide_eq_false (by omega)
 have d6:=h.T0
 simp only [aA,Tryz.f110,cutAt,Option.getD_some] at d6
 have d11:=h.Rv
 simp only [aA,Tryz.f110,cutAt,Option.getD_some] at d11
 simp only [aA,Tryz.f110,KP,↓reduceIte,reduceLT,reduceCtorEq,lw,q]
 refine aU (fun i F Y=>Y = Z /\ F.get 0 = .sl b 0 l.length none /\ F.get 3 = .int .i64 ((i + 1:Nat):Int)) (l.length - 1) ?_ ?_ (l.length - 1) 0 _ _ (by omega) ⟨rfl,(by simp +decide only [GS]),(by simp +decide only [GS]; rfl)⟩
 ·rintro i F Y hi ⟨rfl,g0,g3⟩ next
  obtain ⟨x,hx⟩:∃ x,l[i + 1]? = some x:=⟨_,List.getElem?_eq_getElem (by omega)⟩
  obtain ⟨y,hy⟩:∃ y,l[i]? = some y:=⟨_,List.getElem?_eq_getElem (by omega)⟩
  have hlt:=eE (show i + 1 < l.length by omega)
  have hdn:=Dx (i + 1) (by omega) (by omega)
  rw [Nat.add_sub_cancel] at hdn
  have hadd:=bY (i + 1) (by omega)
  have e1:=GZ (b:=b) (off:=0) h (show i + 1 < l.length by omega)
  have e2:=GZ (b:=b) (off:=0) h (show i < l.length by omega)
  rw [Nat.zero_add] at e1 e2
  have e3:=J_ h hb hx
  have e4:=J_ h hb hy
  rw [aF]
  by_cases hxy:x = y
  case neg=>
   have hs:=f_ hxy
   simp only [KP,↓reduceIte,reduceEqDiff,reduceLT,reduceCtorEq,g0,g3,lw,hlt,hdn,hadd,e1,e2,e3,e4,hs,aT d6,bM]
   exact next _ _ ⟨rfl,(by simp +decide only [GS,g0,and_self])⟩
  have hs:=iA hxy
  have e5:=Kq h hb rfl (show i + 1 < l.length by omega)
  simp only [KP,↓reduceIte,reduceEqDiff,reduceLT,reduceCtorEq,g0,g3,lw,hlt,hdn,e1,e2,e3,e4,e5,hs,aT d6,bM]
  have hly:y ∈ l.take (i + 1):=mem_of_getElem? (by rw [List.getElem?_take_of_lt (Nat.lt_succ_self i)]; exact hy)
  have bo:aQ (.sl b 0 l.length none) = some b:=rfl
  have lw2:∀ Y,lenOf E Y 28 (.sl b (i + 1) (l.length - (i + 1)) none) = some (l.length - (i + 1)):=fun Y=>Oj h
  refine aU (fun j F τ'=>F.get 0 = .sl b 0 l.length none /\ F.get 4 = .sl b (i + 1) (l.length - (i + 1)) none /\ F.get 5 = .int .i64 ((j + 1:Nat):Int) /\ Sp Y τ' (.sl b 0 l.length none) /\ τ'.length = Y.length /\ ∃ (A:List aX) (K:Nat),τ'[b]? = some (O.cells 9 (A.map V.str) ex) /\ A.length = l.length /\ F.get 3 = .int .i64 (K:Int) /\ i + 1 <= K /\ K <= i + 1 + j /\ (∀ p,i + 1 + j <= p -> A[p]? = l[p]?) /\ ∀ x,x ∈ A.take K ↔ x ∈ l.take (i + 1 + j + 1)) (l.length - (i + 1) - 1) ?_ ?_ (l.length - (i + 1) - 1) 0 _ _ (by omega) (k_ (by simp +decide only [GS,g0,and_self]) ⟨(by simp +decide only [GS]; rfl),Sp.refl _ _,rfl,l,i + 1,hb,rfl,(by simp +decide only [GS,g3]),Nat.le_refl _,Nat.le_refl _,fun p _=>rfl,fun z=>by
   rw [fL (k:=i + 1 + 0) (u:=x) hx]
   constructor
   ·exact .inl
   ·rintro (g | rfl)
    ·exact g
    ·rw [hxy]; exact hly⟩)
  ·rintro j F τ' hj ⟨g0,g4,g5,sp,hlen,A,K,hA,hAl,g3,hK1,hK2,hag,hmem⟩ next2
   obtain ⟨u,hu⟩:∃ u,l[i + 1 + j + 1]? = some u:=⟨_,List.getElem?_eq_getElem (by omega)⟩
   obtain ⟨v,hv⟩:∃ v,l[i + 1 + j]? = some v:=⟨_,List.getElem?_eq_getElem (by omega)⟩
   have hu':A[i + 1 + (j + 1)]? = some u:=(hag _ (by omega)).trans hu
   have hv':A[i + 1 + j]? = some v:=(hag _ (by omega)).trans hv
   have hlt2:=eE (show j + 1 < l.length - (i + 1) by omega)
   have hdn2:=Dx (j + 1) (by omega) (by omega)
   rw [Nat.add_sub_cancel] at hdn2
   have hadd2:=bY (j + 1) (by omega)
   have hadd3:=bY K (by omega)
   have f1:=GZ (b:=b) (off:=i + 1) h (show j + 1 < l.length - (i + 1) by omega)
   have f2:=GZ (b:=b) (off:=i + 1) h (show j < l.length - (i + 1) by omega)
   have f3:=J_ h hA hu'
   have f4:=J_ h hA hv'
   have f5:=GZ (b:=b) (off:=0) h (show K < l.length by omega)
   rw [Nat.zero_add] at f5
   have f6:=UJ (s:=u) h hA (show K < A.length by omega)
   have hms:∀ z,z ∈ l.take (i + 1 + (j + 1) + 1) ↔ z ∈ l.take (i + 1 + j + 1) \/ z = u:=fL hu
   rw [aF]
   by_cases huv:u = v
   ·have hs2:=iA huv
    simp only [KP,↓reduceIte,reduceEqDiff,reduceLT,g4,g5,lw2,hlt2,hdn2,hadd2,f1,f2,f3,f4,hs2,aT d11,bM]
    refine next2 _ _ (gD (by simp +decide only [GS,g0,g4,and_self]) ⟨sp,hlen,A,K,hA,hAl,(by simp +decide only [GS,g3]),hK1,by omega,fun p hp=>hag p (by omega),fun z=>?_⟩)
    rw [hms,hmem]
    constructor
    ·exact .inl
    ·rintro (g | rfl)
     ·exact g
     ·rw [huv]
      exact mem_of_getElem? (by rw [List.getElem?_take_of_lt (Nat.lt_succ_self (i + 1 + j))]; exact hv)
   ·have hs2:=f_ huv
    simp only [KP,↓reduceIte,reduceEqDiff,reduceLT,reduceCtorEq,g0,g3,g4,g5,lw2,hlt2,hdn2,hadd2,hadd3,f1,f2,f3,f4,f5,f6,hs2,aT d11,bM]
    refine next2 _ _ (gD (by simp +decide only [GS,g0,g4,and_self]) ⟨Sp.set sp bo,by rw [length_set]; exact hlen,A.set K u,K + 1,by rw [getElem?_set_self (List.getElem?_eq_some_iff.1 hA).1],by rw [length_set]; exact hAl,(by simp +decide only [GS]),by omega,by omega,fun p hp=>?_,fun z=>?_⟩)
    ·rw [getElem?_set_ne (by omega)]; exact hag p (by omega)
    ·rw [hms,<- hmem,fL (u:=u) (by rw [getElem?_set_self (by omega)]),List.take_set_of_le (Nat.le_refl K)]
  ·rintro F τ' ⟨g0,g4,g5,sp,hlen,A,K,hA,hAl,g3,hK1,hK2,hag,hmem⟩
   have hlt2:=eF (show ¬ l.length - (i + 1) - 1 + 1 < l.length - (i + 1) by omega)
   have f1:=Kq h hA hAl.symm (show K < l.length by omega)
   obtain ⟨cs,f2,f3,f4⟩:=O2 h hA hAl.symm (show K < l.length by omega)
   have hA2:(τ'.set b (.cells 9 cs ex))[b]? = some (.cells 9 cs ex):=by rw [getElem?_set_self (List.getElem?_eq_some_iff.1 hA).1]
   have f5:=PT h hA2 f4.symm (show K < l.length by omega)
   have hKl:(A.take K).length = K:=by rw [length_take]; omega
   rw [aF]
   simp only [KP,↓reduceIte,reduceEqDiff,reduceLT,reduceCtorEq,g0,g3,g4,g5,lw2,hlt2,f1,f2,f5]
   refine ⟨⟨A.take K,.inr ⟨b,cs,ex,by rw [hKl],hA2,by rw [hKl]; exact f3⟩,by rw [hKl]; omega,fun z=>?_⟩,fun c hc=>hc,Sp.set sp bo,by rw [length_set]; exact hlen⟩
   ·rw [hmem,show i + 1 + (l.length - (i + 1) - 1) + 1 = l.length by omega,take_of_length_le (Nat.le_refl _)]
 ·rintro F Y ⟨rfl,g0,g3⟩
  have hlt:=eF (show ¬ l.length - 1 + 1 < l.length by omega)
  rw [aF]
  simp only [KP,↓reduceIte,reduceEqDiff,reduceLT,reduceCtorEq,g0,g3,lw,hlt]
  exact ⟨⟨l,hls,Nat.le_refl _,fun x=>Iff.rfl⟩,fun c hc=>hc,Sp.refl _ _⟩
end
end
section
section
variable {E:Env} {Z:Sg} {K:V -> Sg -> Prop}
def MK (get:aX -> Option V) (P:aX -> aX -> Prop):Prop:=∀ k,(get k = none /\ ∀ n,¬ P k n) \/ ∃ n,P k n /\ get k = some (.str n)
theorem MK.nil:MK (fun _=>none) fun _ _=>False:=fun _=>.inl ⟨rfl,fun _ h=>h⟩
theorem MK.put {get:aX -> Option V} {P:aX -> aX -> Prop} (h:MK get P) (k n:aX):MK (fun q=>if q = k then some (.str n) else get q) fun q m=>P q m \/ (q = k /\ m = n):=fun q=>by
 by_cases hq:q = k
 ·exact .inr ⟨n,.inr ⟨hq,rfl⟩,if_pos hq⟩
 ·rcases h q with ⟨h1,h2⟩ | ⟨m,h1,h2⟩
  ·exact .inl ⟨(if_neg hq).trans h1,fun m hm=>hm.elim (h2 m) fun g=>hq g.1⟩
  ·exact .inr ⟨m,.inl h1,(if_neg hq).trans h2⟩
theorem MK.congr {get:aX -> Option V} {P Q:aX -> aX -> Prop} (h:MK get P) (e:∀ k n,P k n ↔ Q k n):MK get Q:=fun k=>by
 rcases h k with ⟨h1,h2⟩ | ⟨n,h1,h2⟩
 ·exact .inl ⟨h1,fun n hn=>h2 n ((e k n).2 hn)⟩
 ·exact .inr ⟨n,(e k n).1 h1,h2⟩
theorem Qw (h:bK E) {Z:Sg} {x:V} {es:List (V × V)} {get:aX -> Option V} (hx:entriesOf Z x = some es) (hs:SM E es get) (k:aX):lookup E Z 104 x (.str k) true = some (match get k with | some v=>.fZ [v,.bool true] | none=>.fZ [.str [],.bool false]):=by
 have hk:dS E 9 (.str k) = true:=by unfold dS; rw [h.c_]
 unfold Ax.lookup
 simp only [h.Am,h.c_,hk,hx,hs.2 k,Bool.not_true,Bool.false_eq_true,if_false]
 cases get k <;> rfl
theorem Sx (h:bK E) {Z:Sg} {b:Nat} {es:List (V × V)} {get:aX -> Option V} (hb:Z[b]? = some (.map es)) (hs:SM E es get) (k n:aX):∃ es',mapUpdate E Z 104 (.mp b) (.str k) (.str n) = some (Z.set b (.map es')) /\ SM E es' fun q=>if q = k then some (.str n) else get q:=by
 obtain ⟨es',h1,h2⟩:=ET h (v:=.str n) k rfl hs
 have hk:dS E 9 (.str k) = true:=by unfold dS; rw [h.c_]
 refine ⟨es',?_,h2⟩
 unfold Ax.mapUpdate
 simp only [h.Am,hk,hb,h1,eY,V.a_,Bool.not_true,Bool.or_self,Bool.false_eq_true,if_false,Option.map_some]
def Mk (rs:List aG) (k n:aX):Prop:=∃ r ∈ rs,k ∈ r.outs /\ n = r.name
theorem KI {rs:List aG} {i:Nat} {r:aG} (hr:rs[i]? = some r) (k n:aX):Mk (rs.take (i + 1)) k n ↔ Mk (rs.take i) k n \/ (k ∈ r.outs /\ n = r.name):=by
 unfold Mk
 rw [take_add_one,hr]
 simp only [mem_append,Option.toList_some,mem_singleton]
 constructor
 ·rintro ⟨q,hq | rfl,h⟩
  ·exact .inl ⟨q,hq,h⟩
  ·exact .inr h
 ·rintro (⟨q,hq,h⟩ | h)
  ·exact ⟨q,.inl hq,h⟩
  ·exact ⟨r,.inr rfl,h⟩
theorem Wk (h:bK E) {a:V} {rs:List aG} (ia:IS dZ a rs) (hs:∀ x ∈ rs,Small x) (hl:rs.length <= 4294967296) (F:FT) (g0:F.get 0 = a) (g3:F.get 3 = .mp 0)
  (hk:∀ F' Y es get,F'.get 0 = a -> F'.get 3 = .mp 0 -> Y[0]? = some (.map es) -> SM E es get -> MK get (Mk rs) -> R E (cutAt [1,1,1] (aA Tryz.f147).code) [] ⟨74,F'⟩ Y (mD E (aA Tryz.f147).results K)) :
  R E (cutAt [1,1] (aA Tryz.f147).code) [] ⟨74,F⟩ [.map []] (mD E (aA Tryz.f147).results K):=by
 have la:=cV h ia
 rw [show cutAt [1,1] (aA Tryz.f147).code = .seq (cutAt [1,1,0] (aA Tryz.f147).code) (cutAt [1,1,1] (aA Tryz.f147).code) from rfl]
 generalize cutAt [1,1,1] (aA Tryz.f147).code = C at hk ⊢
 simp only [aA,Tryz.f147,KP,↓reduceIte,reduceLT,cutAt,g0,la]
 refine aU (fun i F Y=>F.get 0 = a /\ F.get 3 = .mp 0 /\ F.get 17 = a /\ F.get 18 = .int .i64 (rs.length:Int) /\ F.get 19 = .int .i64 (i:Int) /\ ∃ es get,Y[0]? = some (.map es) /\ SM E es get /\ MK get (Mk (rs.take i))) rs.length ?_ ?_ rs.length 0 _ _ (by omega) (mH (by simp +decide only [GS,g0,g3,and_self]) ⟨[],fun _=>none,rfl,Il,MK.nil.congr fun k n=>⟨fun h=>h.elim,fun ⟨r,hr,_⟩=>by cases hr⟩⟩)
 ·rintro i F Y hi ⟨g0,g3,g17,g18,g19,es,get,hb,hsm,hmk⟩ next
  obtain ⟨r,hr⟩:∃ y,rs[i]? = some y:=⟨_,List.getElem?_eq_getElem hi⟩
  obtain ⟨g,p1,p2,p3,p4,e1,i1,i2,i3,i4⟩:=fD h ia hr
  have hsr:=hs r (mem_of_getElem? hr)
  have a2:=hsr.outs
  have o1:=aL i1.bE
  have o2:=aL i2.bE
  have o3:=aL i3.bE
  have o4:=aL i4.bE
  have hlt:=eE hi
  have hadd:=bY i (by omega)
  have lo:=bO h i2
  have hb1:=aN (x:=O.cells 37 [.str r.name,p1,p2,p3,p4] true) hb
  have s1:(Y ++ [O.cells 37 [.str r.name,p1,p2,p3,p4] true])[Y.length]? = some (O.cells 37 [.str r.name,p1,p2,p3,p4] true):=aO
  rw [aF]
  simp only [KP,Ax.loadAt,Ax.storeAt,↓reduceIte,reduceEqDiff,reduceLT,reduceAdd,reduceCtorEq,h.bB,h.bJ,g17,g18,g19,hlt,e1,o1,o2,o3,o4,aO,cH]
  generalize Y ++ [O.cells 37 [.str r.name,p1,p2,p3,p4] true] = τ1 at *
  generalize Y.length = y at *
  simp only [KP,↓reduceIte,reduceLT,lo]
  refine aU (fun j F Y=>F.get 0 = a /\ F.get 3 = .mp 0 /\ F.get 17 = a /\ F.get 18 = .int .i64 (rs.length:Int) /\ F.get 19 = .int .i64 (i:Int) /\ F.get 5 = .ref y 0 /\ F.get 24 = p2 /\ F.get 25 = .int .i64 (r.outs.length:Int) /\ F.get 26 = .int .i64 (j:Int) /\ Y[y]? = some (O.cells 37 [.str r.name,p1,p2,p3,p4] true) /\ ∃ es get,Y[0]? = some (.map es) /\ SM E es get /\ MK get fun k n=>Mk (rs.take i) k n \/ (k ∈ r.outs.take j /\ n = r.name)) r.outs.length ?_ ?_ r.outs.length 0 _ _ (by omega) (vO (by simp +decide only [GS,g0,g3,g17,g18,g19,and_self]) ⟨s1,es,get,hb1,hsm,hmk.congr fun k n=>by simp⟩)
  ·rintro j F Y hj ⟨g0,g3,g17,g18,g19,g5,g24,g25,g26,s1,es,get,hb,hsm,hmk⟩ next2
   obtain ⟨s,hsj⟩:∃ y,r.outs[j]? = some y:=⟨_,List.getElem?_eq_getElem hj⟩
   obtain ⟨g',e2⟩:=gG h i2 hsj
   have hlt2:=eE hj
   have hadd2:=bY j (by omega)
   obtain ⟨es',hu,hsm'⟩:=Sx h hb hsm s r.name
   have hy0:0 ≠ y:=pG hb s1 (by intro e; cases e)
   rw [aF]
   simp only [KP,Ax.loadAt,↓reduceIte,reduceEqDiff,reduceLT,reduceCtorEq,h.c_,h.bJ,g3,g5,g24,g25,g26,hlt2,e2,s1,hu,hadd2]
   refine next2 _ _ (vO (by simp +decide only [GS,g0,g3,g17,g18,g19,g5,g24,g25,and_self]) ⟨by rw [getElem?_set_ne hy0]; exact s1,es',_,by rw [getElem?_set_self (List.getElem?_eq_some_iff.1 hb).1],hsm',(hmk.put s r.name).congr fun k n=>?_⟩)
   rw [fL hsj]
   constructor
   ·rintro ((h1 | h1) | h1)
    ·exact .inl h1
    ·exact .inr ⟨.inl h1.1,h1.2⟩
    ·exact .inr ⟨.inr h1.1,h1.2⟩
   ·rintro (h1 | ⟨h1 | h1,h2⟩)
    ·exact .inl (.inl h1)
    ·exact .inl (.inr ⟨h1,h2⟩)
    ·exact .inr ⟨h1,h2⟩
  ·rintro F Y ⟨g0,g3,g17,g18,g19,g5,g24,g25,g26,s1,es,get,hb,hsm,hmk⟩
   rw [take_of_length_le (Nat.le_refl _)] at hmk
   have hlt2:=eF (Nat.lt_irrefl r.outs.length)
   rw [aF]
   simp only [KP,↓reduceIte,reduceEqDiff,reduceLT,g19,g25,g26,hlt2,hadd]
   exact next _ _ (mH (by simp +decide only [GS,g0,g3,g17,g18,and_self]) ⟨es,get,hb,hsm,hmk.congr fun k n=>(KI hr k n).symm⟩)
 ·rintro F Y ⟨g0,g3,g17,g18,g19,es,get,hb,hsm,hmk⟩
  rw [take_of_length_le (Nat.le_refl _)] at hmk
  have hlt:=eF (Nat.lt_irrefl rs.length)
  rw [aF]
  simp only [KP,↓reduceIte,reduceLT,g18,g19,hlt]
  exact hk _ _ es get (by simp +decide only [GS,g0]) (by simp +decide only [GS,g3]) hb hsm hmk
end
end
section
section
variable {E:Env} {Z:Sg} {K:V -> Sg -> Prop}
theorem OL.keep {Z Y:Sg} {v:V} {l:List aX} (h:OL Z v l) (k:∀ (c:Nat) (o:O),aQ v = some c -> Z[c]? = some o -> Y[c]? = some o):OL Y v l:=by
 rcases h with h | ⟨b,cs,ex,rfl,hb,ht⟩
 ·exact .inl h
 ·exact .inr ⟨b,cs,ex,rfl,k b _ rfl hb,ht⟩
theorem OL.ok {Z:Sg} {v:V} {l:List aX} (h:OL Z v l):eY v = true:=by
 rcases h with ⟨rfl,-⟩ | ⟨b,cs,ex,rfl,-⟩ <;> rfl
def Sq (v:V) (l:List aX):Prop:=(v = .aC /\ l = []) \/ ∃ full,v = .bL false (l.map fun s=>[V.str s]) full
theorem oD:∀ l:List aX,Ax.rows 1 l.length (l.map V.str) = l.map fun s=>[V.str s]
 | []=>rfl
 | s :: l=>by
  rw [length_cons,map_cons,Ax.rows,map_cons]
  exact congrArg _ (oD l)
theorem OL.snap (h:bK E) {Z:Sg} {v:V} {l:List aX} {m:Nat} (ho:OL Z v l):∃ v',bP Z E.ty false (m + 2) v = some v' /\ Sq v' l:=by
 rcases ho with ⟨rfl,rfl⟩ | ⟨b,cs,ex,rfl,hb,ht⟩
 ·exact ⟨.aC,rfl,.inl ⟨rfl,rfl⟩⟩
 ·have hle:l.length <= cs.length:=by
   have:=congrArg List.length ht
   rw [length_take,length_map] at this
   omega
  have ht1:cs.take (l.length * 1) = l.map V.str:=by rw [Nat.mul_one]; exact ht
  obtain ⟨full,e⟩:=Gb (g:=false) (n:=l.length) (m:=m) hb h.c_ (show l.length * 1 <= _ by omega) (fun c hcm=>by
   rw [show cs.take (l.length * 1) = l.map V.str from ht1] at hcm
   obtain ⟨s,-,rfl⟩:=mem_map.1 hcm
   exact ⟨rfl,rfl⟩)
  refine ⟨_,e,.inr ⟨full,?_⟩⟩
  show V.bL false (Ax.rows 1 l.length (cs.take (l.length * 1))) full = _
  rw [ht1,oD]
theorem Sq.tag {v:V} {l:List aX} (h:Sq v l):cF false v = true:=by
 rcases h with ⟨rfl,-⟩ | ⟨full,rfl⟩ <;> rfl
def Dd (Y:Sg) (N:aG -> aX -> Prop) (es:List (V × V)) (rs:List aG):Prop:=eS (fun e r=>e.1 = V.str r.name /\ ∃ l,OL Y e.2 l /\ l.length <= 1000000 /\ ∀ x,x ∈ l ↔ N r x) es rs
def Bi (N:aG -> aX -> Prop) (es:List (V × V)) (rs:List aG):Prop:=eS (fun e r=>e.1 = V.str r.name /\ ∃ l,Sq e.2 l /\ l.length <= 1000000 /\ ∀ x,x ∈ l ↔ N r x) es rs
theorem Dd.keep {Z Y:Sg} {N:aG -> aX -> Prop} {mA:Nat} {em:List (V × V)} {es:List (V × V)} {rs:List aG} (h:Dd Z N es rs) (hm:Z[mA]? = some (.map em)) (k:∀ (c:Nat) (o:O),Z[c]? = some o -> c ≠ mA -> Y[c]? = some o):Dd Y N es rs:=by
 refine eS.imp h fun e r ⟨h1,l,h2,h3⟩=>⟨h1,l,h2.keep fun c o hc ho=>k c o ho ?_,h3⟩
 rintro rfl
 rcases h2 with ⟨e0,-⟩ | ⟨b,cs,ex,e0,hb,-⟩
 ·rw [e0] at hc; cases hc
 ·rw [e0] at hc
  cases hc
  rw [hm] at hb
  cases hb
theorem Ci (h:bK E) {k:aX} {v:V}:∀ {es:List (V × V)},(∀ e ∈ es,∃ q,e.1 = V.str q /\ q ≠ k) -> kK (eO E 9) (.str k) v es = some (es ++ [(.str k,v)])
 | [],_=>rfl
 | (k0,v0) :: es,hs=>by
  obtain ⟨q,e1,hq⟩:=hs _ (mem_cons_self ..)
  dsimp only at e1
  subst e1
  rw [kK,bX h,f_ (Ne.symm hq)]
  simp only [Ci h fun e he=>hs e (mem_cons_of_mem _ he)]
  rfl
theorem PV (h:bK E) {Y:Sg} {b:Nat} {N:aG -> aX -> Prop} {es:List (V × V)} {rs:List aG} {r:aG} {v:V} {l:List aX} (hb:Y[b]? = some (.map es)) (ha:Dd Y N es rs) (hn:∀ q ∈ rs,q.name ≠ r.name) (hv:OL Y v l) (hl:l.length <= 1000000) (hm:∀ x,x ∈ l ↔ N r x) :
  mapUpdate E Y 96 (.mp b) (.str r.name) v = some (Y.set b (.map (es ++ [(.str r.name,v)]))) /\ Dd (Y.set b (.map (es ++ [(.str r.name,v)]))) N (es ++ [(.str r.name,v)]) (rs ++ [r]):=by
 have hk:dS E 9 (.str r.name) = true:=by unfold dS; rw [h.c_]
 have hp:=Ci (v:=v) (k:=r.name) h (es:=es) fun e he=>by
  obtain ⟨q,hq,h1,-⟩:=eS.mem ha he
  exact ⟨q.name,h1,hn q hq⟩
 have hkeep:∀ (c:Nat) (o:O),Y[c]? = some o -> c ≠ b -> (Y.set b (.map (es ++ [(.str r.name,v)])))[c]? = some o:=fun c o hc hcb=>by
  rw [getElem?_set_ne (Ne.symm hcb)]; exact hc
 refine ⟨?_,?_⟩
 ·unfold Ax.mapUpdate
  simp only [h.ty96,hk,hb,hp,hv.ok,Bool.not_true,Bool.or_self,Bool.false_eq_true,if_false,Option.map_some]
 ·refine eS.append (ha.keep hb hkeep) (.cons ⟨rfl,l,hv.keep fun c o hc ho=>hkeep c o ho ?_,hl,hm⟩ .nil)
  rintro rfl
  rcases hv with ⟨e0,-⟩ | ⟨b',cs,ex,e0,hb',-⟩
  ·rw [e0] at hc; cases hc
  ·rw [e0] at hc
   cases hc
   rw [hb] at hb'
   cases hb'
theorem Nq (h:bK E) {Y:Sg} {b:Nat} {N:aG -> aX -> Prop} {es:List (V × V)} {rs:List aG} (hb:Y[b]? = some (.map es)) (ha:Dd Y N es rs):∃ es',cP Y E.ty false (.mp b) = some (.imp false es') /\ Bi N es' rs:=by
 have key:∀ {es:List (V × V)} {rs:List aG},Dd Y N es rs -> ∃ es',aW (fun (e:V × V)=>if e.1.cells.all Ax.plainCell then (match e.2 with
   | .agg cs=>match aW (fun v=>match bP Y E.ty false 11 v with
     | some v=>if cF false v then some v else Ax.no "snap: borrowed"
     | none=>none) cs with
    | some cs=>some (e.1,V.agg cs)
    | none=>none
   | v=>match (match bP Y E.ty false 11 v with
     | some v=>if cF false v then some v else Ax.no "snap: borrowed"
     | none=>none) with
    | some v=>some (e.1,v)
    | none=>none) else none) es = some es' /\ Bi N es' rs:=by
  intro es rs ha
  induction ha with
  | nil=>exact ⟨[],rfl,.nil⟩
  | @cons e r es rs h1 _ ih=>
   obtain ⟨es',e1,a1⟩:=ih
   obtain ⟨a,v⟩:=e
   obtain ⟨h2,l,h3,h4,h5⟩:=h1
   dsimp only at h2 h3
   subst h2
   obtain ⟨v',e2,sv⟩:=h3.snap (m:=9) h
   refine ⟨(.str r.name,v') :: es',?_,.cons ⟨rfl,l,sv,h4,h5⟩ a1⟩
   rw [aW]
   have hpc:(V.str r.name).cells.all Ax.plainCell = true:=rfl
   have ht:=sv.tag
   rcases h3 with ⟨rfl,-⟩ | ⟨b',cs,ex,rfl,-⟩
   ·simp only [hpc,if_true,e2,ht,e1]
   ·simp only [hpc,if_true,e2,ht,e1]
 obtain ⟨es',e1,a1⟩:=key ha
 refine ⟨es',?_,a1⟩
 have e:bP Y E.ty false 12 (.mp b) = some (.imp false es'):=by
  rw [bP]
  simp only [hb]
  exact congrArg (fun o=>match o with
   | some l=>some (V.imp false l)
   | none=>none) e1
 show aV.one Y E.ty false (.mp b) = _
 unfold aV.one
 rw [show dY = 12 from rfl,e]
 rfl
end
end
section
section
variable {E:Env} {Z:Sg} {K:V -> Sg -> Prop}
theorem Tk (h:bK E) {τ0 Y:Sg} {w p1 p2 p3 p4:V} {l:List aX} {r:aG} {y mA:Nat} {es:List (V × V)} {N:aG -> aX -> Prop} {rs:List aG} (ow:bD aM 9 Y w l) (hl:l.length <= 1000000) (kp:Kp τ0 Y) (fr:∀ b,aQ w = some b -> τ0.length <= b) (hy:τ0[y]? = some (O.cells 37 [.str r.name,p1,p2,p3,p4] true)) (hA:τ0[mA]? = some (.map es)) (ha:Dd τ0 N es rs) (hn:∀ q ∈ rs,q.name ≠ r.name) (hm:∀ x,x ∈ l ↔ N r x)
  (F:FT) (g8:F.get 8 = .mp mA) (g10:F.get 10 = .ref y 0) (g11:F.get 11 = w) {st:List jO} {Q:Ax.X -> Fr -> Sg -> Prop}
  (hk:∀ F' τ' es',(∀ k,k ∈ [0,3,8,37,38,39] -> F'.get k = F.get k) -> τ'[mA]? = some (.map es') -> Dd τ' N es' (rs ++ [r]) -> (∀ (c:Nat) (o:O),τ0[c]? = some o -> c ≠ mA -> τ'[c]? = some o) -> M E st .normal ⟨74,F'⟩ τ' Q):R E (.region 24 (opsOf (cutAt [1,1,1,1,0,1,2,2,1,1,0,2,1,1,1,1] (aA Tryz.f147).code)) true) st ⟨74,F⟩ Y Q:=by
 obtain ⟨n,v,τ1,hcall,⟨l',ol,hle,hmem⟩,hbk,sp,hlen⟩:=Mm h ow hl
 have kp1:Kp τ0 τ1:=fun c o hc=>sp c o (kp c o hc) fun e=>absurd (List.getElem?_eq_some_iff.1 hc).1 (by have:=fr c e; omega)
 have hy0:=kp _ _ hy
 have hy1:=kp1 _ _ hy
 have hA1:=kp1 _ _ hA
 obtain ⟨hu,ha2⟩:=PV h hA1 (ha.keep hA fun c o hc _=>kp1 c o hc) hn ol (by omega) (fun x=>(hmem x).trans (hm x))
 have vs:=Ak 11 r.name
 have key:∃ F',cC E (ev E n) (opsOf (cutAt [1,1,1,1,0,1,2,2,1,1,0,2,1,1,1,1] (aA Tryz.f147).code)) ⟨74,F⟩ Y = some (⟨74,F'⟩,τ1.set mA (.map (es ++ [(.str r.name,v)]))) /\ (∀ k,k ∈ [0,3,8,37,38,39] -> F'.get k = F.get k):=by
  unfold cC
  rw [h.PN,h.Qk]
  simp only [aA,Tryz.f147,KP,Ax.loadAt,↓reduceIte,reduceEqDiff,reduceLT,reduceAdd,reduceCtorEq,h.c_,h.bJ,opsOf,cutAt,fO,bG,bW,jP,Ax.comp,Ax.last,fI,Ax.again,aR,g8,g10,g11,hy0,hy1,hcall,hu,vs]
  refine ⟨_,rfl,fun k hk=>?_⟩
  simp only [mem_cons,List.not_mem_nil,or_false] at hk
  rcases hk with rfl | rfl | rfl | rfl | rfl | rfl <;> simp +decide only [GS]
 obtain ⟨F',hD,h1⟩:=key
 refine Eq.mpr (h_ hD) (hk F' _ _ h1 (by rw [getElem?_set_self (List.getElem?_eq_some_iff.1 hA1).1]) ha2 fun c o hc hcm=>?_)
 rw [getElem?_set_ne (Ne.symm hcm)]
 exact kp1 c o hc
end
end
section
section
variable {E:Env} {Z:Sg} {K:V -> Sg -> Prop}
def Nx (rs:List aG) (r:aG) (x:aX):Prop:=x ∈ r.after \/ ∃ f ∈ r.ins,Mk rs f x
structure ED (rs:List aG):Prop where
 names:∀ r ∈ rs,r.name.length <= 40
 Un:∀ r ∈ rs,∀ s ∈ r.after,s.length <= 40
 nodup:∀ (i j:Nat) (p q:aG),rs[i]? = some p -> rs[j]? = some q -> p.name = q.name -> i = j
 jJ:∀ f n m,Mk rs f n -> Mk rs f m -> n = m
theorem Mk.short {rs:List aG} (h:ED rs) {f n:aX} (hm:Mk rs f n):n.length <= 40:=by
 obtain ⟨r,hr,-,rfl⟩:=hm
 exact h.names r hr
theorem Wj (h:bK E) {a:V} {rs:List aG} (ia:IS dZ a rs) (hs:∀ x ∈ rs,Small x) (hsh:ED rs) (hl:rs.length <= 1000) {Y:Sg} {es0:List (V × V)} {get:aX -> Option V} (h0:Y[0]? = some (.map es0)) (hsm:SM E es0 get) (hmk:MK get (Mk rs)) (F:FT) (g0:F.get 0 = a) (g3:F.get 3 = .mp 0) :
  R E (cutAt [1,1,1] (aA Tryz.f147).code) [] ⟨74,F⟩ Y (mD E (aA Tryz.f147).results (fun v σ1=>match cP σ1 E.ty false v with
   | some v=>∃ es,v = .imp false es /\ Bi (Nx rs) es rs
   | none=>False)):=by
 have la:=cV h ia
 have rest:=fun {τ0 Y w p1 p2 p3 p4 l r y mA es rs'} ow hl' kp fr hy hA ha hn hm F g8 g10 g11 st Q hk=>Tk (τ0:=τ0) (Y:=Y) (w:=w) (p1:=p1) (p2:=p2) (p3:=p3) (p4:=p4) (l:=l) (r:=r) (y:=y) (mA:=mA) (es:=es) (N:=Nx rs) (rs:=rs') h ow hl' kp fr hy hA ha hn hm F g8 g10 g11 (st:=st) (Q:=Q) hk
 simp only [aA,Tryz.f147,KP,↓reduceIte,reduceLT,reduceCtorEq,cutAt,g0,la]
 have hA0:(Y ++ [O.map []])[Y.length]? = some (.map []):=aO
 have h00:=aN (x:=O.map []) h0
 have hmA:Y.length ≠ 0:=by have:=(List.getElem?_eq_some_iff.1 h0).1; omega
 generalize Y ++ [O.map []] = τ1 at *
 generalize Y.length = mA at *
 refine aU (fun i F Y=>F.get 0 = a /\ F.get 3 = .mp 0 /\ F.get 8 = .mp mA /\ F.get 37 = a /\ F.get 38 = .int .i64 (rs.length:Int) /\ F.get 39 = .int .i64 (i:Int) /\ Y[0]? = some (.map es0) /\ ∃ es,Y[mA]? = some (.map es) /\ Dd Y (Nx rs) es (rs.take i)) rs.length ?_ ?_ rs.length 0 _ _ (by omega) (yP (by simp +decide only [GS,g0,g3,and_self]) ⟨h00,[],hA0,.nil⟩)
 ·rintro i F Y hi ⟨g0,g3,g8,g37,g38,g39,h0,es,hA,ha⟩ next
  obtain ⟨r,hr⟩:∃ y,rs[i]? = some y:=⟨_,List.getElem?_eq_getElem hi⟩
  have hrm:=mem_of_getElem? hr
  obtain ⟨g,p1,p2,p3,p4,e1,i1,i2,i3,i4⟩:=fD h ia hr
  have hsr:=hs r hrm
  have a1:=hsr.ins
  have a3:=hsr.after
  have o1:=aL i1.bE
  have o2:=aL i2.bE
  have o3:=aL i3.bE
  have o4:=aL i4.bE
  have hlt:=eE hi
  have hadd:=bY i (by omega)
  have li:=bO h i1
  have hnn:∀ q ∈ rs.take i,q.name ≠ r.name:=fun q hq e=>by
   obtain ⟨j,hj⟩:=mem_iff_getElem?.1 hq
   have hji:j < i:=by have:=(List.getElem?_eq_some_iff.1 hj).1; rw [length_take] at this; omega
   rw [List.getElem?_take_of_lt hji] at hj
   have:=hsh.nodup j i q r hj hr e
   omega
  have hb1:=aN (x:=O.cells 37 [.str r.name,p1,p2,p3,p4] true) h0
  have hA1:=aN (x:=O.cells 37 [.str r.name,p1,p2,p3,p4] true) hA
  have ha1:Dd (Y ++ [O.cells 37 [.str r.name,p1,p2,p3,p4] true]) (Nx rs) es (rs.take i):=ha.keep hA fun c o hc _=>aN hc
  have s1:(Y ++ [O.cells 37 [.str r.name,p1,p2,p3,p4] true])[Y.length]? = some (O.cells 37 [.str r.name,p1,p2,p3,p4] true):=aO
  rw [aF]
  simp only [KP,Ax.loadAt,Ax.storeAt,↓reduceIte,reduceEqDiff,reduceLT,reduceAdd,reduceCtorEq,h.bB,h.bJ,g37,g38,g39,hlt,e1,o1,o2,o3,o4,aO,cH]
  generalize Y ++ [O.cells 37 [.str r.name,p1,p2,p3,p4] true] = τ1 at *
  generalize Y.length = y at *
  refine aI (sK h i3 (by omega)) ?_
  rintro w0 τ2 ⟨ow0,kp0,fr0⟩
  have s2:=kp0 _ _ s1
  simp only [KP,Ax.loadAt,↓reduceIte,reduceEqDiff,reduceLT,reduceCtorEq,h.bB,h.bJ,s2,li]
  refine aU (fun j F Y=>F.get 0 = a /\ F.get 3 = .mp 0 /\ F.get 8 = .mp mA /\ F.get 37 = a /\ F.get 38 = .int .i64 (rs.length:Int) /\ F.get 39 = .int .i64 (i:Int) /\ F.get 10 = .ref y 0 /\ F.get 47 = p1 /\ F.get 48 = .int .i64 (r.ins.length:Int) /\ F.get 49 = .int .i64 (j:Int) /\ Kp τ1 Y /\ ∃ w cur,F.get 11 = w /\ bD aM 9 Y w cur /\ (∀ b,aQ w = some b -> τ1.length <= b) /\ cur.length <= r.after.length + j /\ (∀ x ∈ cur,x.length <= 40) /\ ∀ x,x ∈ cur ↔ x ∈ r.after \/ ∃ f ∈ r.ins.take j,Mk rs f x) r.ins.length ?_ ?_ r.ins.length 0 _ _ (by omega) (I0 (by simp +decide only [GS,g0,g3,g8,g37,g38,g39,and_self]) ⟨kp0,w0,r.after,(by simp +decide only [GS]),ow0,fr0,Nat.le_refl _,hsh.Un r hrm,fun x=>by simp⟩)
  ·rintro j F Y hj ⟨g0,g3,g8,g37,g38,g39,g10,g47,g48,g49,kp,w,cur,g11,ow,fr,hcl,hc40,hmem⟩ next2
   obtain ⟨s,hsj⟩:∃ y,r.ins[j]? = some y:=⟨_,List.getElem?_eq_getElem hj⟩
   obtain ⟨g',e2⟩:=gG h i1 hsj
   have hlt2:=eE hj
   have hadd2:=bY j (by omega)
   have hb2:=kp _ _ hb1
   have hlk:=Qw (Z:=Y) (x:=.mp 0) h (by unfold entriesOf; simp only [hb2]) hsm s
   have hex:∀ x,(∃ f ∈ r.ins.take (j + 1),Mk rs f x) ↔ (∃ f ∈ r.ins.take j,Mk rs f x) \/ Mk rs s x:=fun x=>by
    constructor
    ·rintro ⟨f,hf,hm⟩
     rcases (fL hsj f).1 hf with hf | rfl
     ·exact .inl ⟨f,hf,hm⟩
     ·exact .inr hm
    ·rintro (⟨f,hf,hm⟩ | hm)
     ·exact ⟨f,(fL hsj f).2 (.inl hf),hm⟩
     ·exact ⟨s,(fL hsj s).2 (.inr rfl),hm⟩
   rw [aF]
   rcases hmk s with ⟨hg,hno⟩ | ⟨n,hP,hg⟩
   ·rw [hg] at hlk
    simp only [KP,Ax.loadAt,↓reduceIte,reduceEqDiff,reduceLT,h.c_,g3,g47,g48,g49,hlt2,e2,hlk,hadd2]
    refine next2 _ _ (I0 (by simp +decide only [GS,g0,g3,g8,g37,g38,g39,g10,g47,g48,and_self]) ⟨kp,w,cur,(by simp +decide only [GS,g11]),ow,fr,by omega,hc40,fun x=>?_⟩)
    rw [hmem,hex]
    exact ⟨fun h=>h.elim .inl fun g=>.inr (.inl g),fun h=>h.elim .inl fun g=>.inr (g.elim id fun g=>absurd g (hno x))⟩
   ·rw [hg] at hlk
    obtain ⟨w',τ',hap,ow',sp',hln',fr'⟩:=jX (ats:=#[28,28]) (m:=[n]) (new:=[[.str n]]) h.bB rfl h.c_ rfl (by decide) (jD h) rfl (ow.app [.cells 9 [.str n] true]) (mM rfl) (.one rfl) (eU (b:=1000) (by decide) (by simp only [length_cons,length_nil]; omega))
    simp only [KP,Ax.loadAt,↓reduceIte,reduceEqDiff,reduceLT,reduceLeDiff,reduceMul,h.c_,h.bB,g3,g11,g47,g48,g49,hlt2,e2,hlk,kL,hap,hadd2]
    refine next2 _ _ (I0 (by simp +decide only [GS,g0,g3,g8,g37,g38,g39,g10,g47,g48,and_self]) ⟨fun c o hc=>sp' c o (aN (kp c o hc)) fun e=>absurd (List.getElem?_eq_some_iff.1 hc).1 (by have:=fr c e; omega),w',cur ++ [n],(by simp +decide only [GS]),ow',fun b hb=>?_,by rw [length_append,List.length_singleton]; omega,fun x hx=>?_,fun x=>?_⟩)
    ·rcases fr' b hb with g | g
     ·exact fr b g
     ·have h1:=(List.getElem?_eq_some_iff.1 (kp _ _ s1)).1
      have h2:τ1.length <= Y.length:=by
       refine Nat.le_of_not_lt fun hlt=>?_
       obtain ⟨o,ho⟩:∃ o,τ1[Y.length]? = some o:=⟨_,List.getElem?_eq_getElem hlt⟩
       exact absurd (List.getElem?_eq_some_iff.1 (kp _ _ ho)).1 (Nat.lt_irrefl _)
      simp only [length_append,length_cons,length_nil] at g
      omega
    ·rcases mem_append.1 hx with hx | hx
     ·exact hc40 x hx
     ·rw [mem_singleton.1 hx]; exact hP.short hsh
    ·rw [mem_append,hmem,hex,mem_singleton]
     constructor
     ·rintro ((h1 | h1) | rfl)
      ·exact .inl h1
      ·exact .inr (.inl h1)
      ·exact .inr (.inr hP)
     ·rintro (h1 | h1 | h1)
      ·exact .inl (.inl h1)
      ·exact .inl (.inr h1)
      ·exact .inr (hsh.jJ s x n h1 hP)
  ·rintro F Y ⟨g0,g3,g8,g37,g38,g39,g10,g47,g48,g49,kp,w,cur,g11,ow,fr,hcl,hc40,hmem⟩
   rw [take_of_length_le (Nat.le_refl _)] at hmem
   have hlt2:=eF (Nat.lt_irrefl r.ins.length)
   obtain ⟨τ3,cur',hS,hperm,ow3,M1,hln3⟩:=Eh ow (by omega) (fun x hx=>by have:=hc40 x hx; omega)
   have ks:=dN (fun K=>show aB E 64 [w] Y K = K (.fZ []) τ3 by rw [nP h.OG,hS]; rfl)
   have kp3:Kp τ1 τ3:=fun c o hc=>M1 c o (kp c o hc) fun e=>absurd (List.getElem?_eq_some_iff.1 hc).1 (by have:=fr c e; omega)
   rw [aF]
   simp only [KP,↓reduceIte,reduceEqDiff,reduceLT,g11,g48,g49,hlt2,ks]
   refine rest (rs':=rs.take i) ow3 (by rw [hperm.length_eq]; omega) kp3 fr s1 hA1 ha1 hnn (fun x=>?_) _ ?_ ?_ ?_ _ _ ?_
   ·rw [hperm.mem_iff,hmem]; exact Iff.rfl
   ·exact (by simp +decide only [GS,g8])
   ·exact (by simp +decide only [GS,g10])
   ·exact (by simp +decide only [GS,g11])
   intro F' τ' es' hF hA' ha' hk'
   have q0:F'.get 0 = a:=(hF 0 (by simp)).trans (by simp +decide only [GS,g0])
   have q3:F'.get 3 = .mp 0:=(hF 3 (by simp)).trans (by simp +decide only [GS,g3])
   have q8:F'.get 8 = .mp mA:=(hF 8 (by simp)).trans (by simp +decide only [GS,g8])
   have q37:F'.get 37 = a:=(hF 37 (by simp)).trans (by simp +decide only [GS,g37])
   have q38:F'.get 38 = .int .i64 (rs.length:Int):=(hF 38 (by simp)).trans (by simp +decide only [GS,g38])
   have q39:F'.get 39 = .int .i64 (i:Int):=(hF 39 (by simp)).trans (by simp +decide only [GS,g39])
   simp only [KP,↓reduceIte,reduceLT,q39,hadd]
   refine next _ _ (yP (by simp +decide only [GS,q0,q3,q8,q37,q38,and_self]) ⟨hk' 0 _ hb1 (Ne.symm hmA),es',hA',?_⟩)
   rw [take_add_one,hr]
   exact ha'
 ·rintro F Y ⟨g0,g3,g8,g37,g38,g39,h0,es,hA,ha⟩
  rw [take_of_length_le (Nat.le_refl _)] at ha
  obtain ⟨es',e1,a1⟩:=Nq h hA ha
  have hlt:=eF (Nat.lt_irrefl rs.length)
  rw [aF]
  simp only [KP,↓reduceIte,reduceEqDiff,reduceLT,g8,g38,g39,hlt,e1]
  exact ⟨es',rfl,a1⟩
theorem RN (h:bK E) {a:V} {rs:List aG} (ha:LS dZ 37 Z a rs) (hs:∀ x ∈ rs,Small x) (hsh:ED rs) (hl:rs.length <= 1000):aB E 147 [a] Z fun v σ'=>σ' = Z /\ ∃ es,v = .imp false es /\ Bi (Nx rs) es rs:=by
 obtain ⟨a',ea,ia⟩:=eT h ha
 rw [aH h.XK h.Vd h.Yv h.WM (args':=[a']) (by simp only [aW,ea]),aZ (by kernel_rfl)]
 have key:=fun Y es0 get h0 hsm hmk F g0 g3=>Wj (Y:=Y) (es0:=es0) (get:=get) h ia hs hsh hl h0 hsm hmk F g0 g3
 have k2:=fun F g0 g3 hk=>Wk (K:=fun v σ1=>match cP σ1 E.ty false v with
   | some v=>∃ es,v = .imp false es /\ Bi (Nx rs) es rs
   | none=>False) h ia hs (by omega) F g0 g3 hk
 rw [show (aA Tryz.f147).code = .seq (cutAt [0] (aA Tryz.f147).code) (.seq (cutAt [1,0] (aA Tryz.f147).code) (cutAt [1,1] (aA Tryz.f147).code)) from rfl]
 generalize cutAt [1,1] (aA Tryz.f147).code = C at k2 ⊢
 simp only [aA,Tryz.f147,KP,↓reduceIte,reduceLT,cutAt]
 refine k2 _ ?_ ?_ fun F' Y es get g0 g3 hb hsm hmk=>key Y es get hb hsm hmk F' g0 g3
 ·exact (by simp +decide only [GS])
 ·exact (by simp +decide only [GS])
end
end
section
section
variable {E:Env} {Z:Sg} {K:V -> Sg -> Prop}
theorem Bi.back {N:aG -> aX -> Prop}:∀ {es:List (V × V)} {rs:List aG},Bi N es rs -> nI es = true /\ es.map ks = rs.map aG.name /\ es.length = rs.length
 | _,_,.nil=>⟨rfl,rfl,rfl⟩
 | (a,v) :: es,r :: rs,.cons h t=>by
  obtain ⟨h1,l,h2,h3,-⟩:=h
  obtain ⟨i1,i2,i3⟩:=Bi.back (N:=N) t
  dsimp only at h1 h2
  subst h1
  refine ⟨?_,?_,by rw [length_cons,length_cons,i3]⟩
  ·have hr:∀ l:List aX,uG (l.map fun s=>[V.str s]) = true:=fun l=>by
    induction l with
    | nil=>rfl
    | cons s l ih=>rw [map_cons,uG]; exact ih
   rcases h2 with ⟨rfl,-⟩ | ⟨full,rfl⟩
   ·rw [nI]; exact i1
   ·rw [nI,hr,length_map,Nat.ble_eq_true_of_le h3]; exact i1
  ·rw [map_cons,map_cons,i2]; rfl
theorem Au:∀ l:List aX,mQ (l.map fun s=>[V.str s]) = l
 | []=>rfl
 | s :: l=>by rw [map_cons,mQ,Au l]
theorem Sq.list {v:V} {l:List aX} (h:Sq v l):iD v = l:=by
 rcases h with ⟨rfl,rfl⟩ | ⟨full,rfl⟩
 ·rfl
 ·exact Au l
theorem xR:∀ {es:List (V × V)},iO es -> (es.map ks).Nodup -> gH es = true
 | [],_,_=>rfl
 | e :: es,ha,hn=>by
  obtain ⟨k,hk⟩:=ha _ (mem_cons_self ..)
  obtain ⟨a,v⟩:=e
  dsimp only at hk
  subst hk
  rw [map_cons,nodup_cons] at hn
  have hh:∀ {l:List (V × V)},iO l -> k ∉ l.map ks -> gH.hasKey k l = false:=by
   intro l
   induction l with
   | nil=>intro _ _; rfl
   | cons e l ih=>
    intro ha hk
    obtain ⟨q,hq⟩:=ha _ (mem_cons_self ..)
    obtain ⟨b,u⟩:=e
    dsimp only at hq
    subst hq
    rw [map_cons,mem_cons,not_or] at hk
    rw [gH.hasKey,show Ax.seq q k = false from jT.2 (fun e=>hk.1 e.symm)]
    exact ih (fun e he=>ha e (mem_cons_of_mem _ he)) hk.2
  rw [gH,hh (fun e he=>ha e (mem_cons_of_mem _ he)) hn.1]
  exact xR (fun e he=>ha e (mem_cons_of_mem _ he)) hn.2
structure NM (rs:List aG) (es:List (V × V)):Prop where
 ok:nI es = true
 keys:es.map ks = rs.map aG.name
 nodup:(es.map ks).Nodup
 nd:gH es = true
 len:es.length = rs.length
 next:∀ r ∈ rs,∀ x,x ∈ bR es r.name ↔ Nx rs r x
theorem Bi.mem {N:aG -> aX -> Prop}:∀ {es:List (V × V)} {rs:List aG},Bi N es rs -> ∀ r ∈ rs,∃ v l,(V.str r.name,v) ∈ es /\ Sq v l /\ ∀ x,x ∈ l ↔ N r x
 | _,_,.nil,r,hr=>by cases hr
 | (a,v) :: es,q :: rs,.cons h t,r,hr=>by
  rcases mem_cons.1 hr with rfl | hr
  ·obtain ⟨h1,l,h2,h3,h4⟩:=h
   dsimp only at h1
   subst h1
   exact ⟨v,l,mem_cons_self ..,h2,h4⟩
  ·obtain ⟨v',l,h1,h2,h3⟩:=Bi.mem (N:=N) t r hr
   exact ⟨v',l,mem_cons_of_mem _ h1,h2,h3⟩
theorem Ay:∀ {rs:List aG},(∀ (i j:Nat) (p q:aG),rs[i]? = some p -> rs[j]? = some q -> p.name = q.name -> i = j) -> (rs.map aG.name).Nodup
 | [],_=>List.Pairwise.nil
 | r :: rs,h=>by
  rw [map_cons,nodup_cons]
  refine ⟨fun hm=>?_,Ay fun i j p q hp hq e=>by
   have:=h (i + 1) (j + 1) p q hp hq e
   omega⟩
  obtain ⟨q,hq,e⟩:=mem_map.1 hm
  obtain ⟨j,hj⟩:=mem_iff_getElem?.1 hq
  have:=h 0 (j + 1) r q rfl hj e.symm
  omega
theorem Wi {rs:List aG} {es:List (V × V)} (hsh:ED rs) (h:Bi (Nx rs) es rs):NM rs es:=by
 obtain ⟨h1,h2,h3⟩:=h.back
 have hn:(es.map ks).Nodup:=by rw [h2]; exact Ay hsh.nodup
 have hb:=wN h1
 refine ⟨h1,h2,hn,xR (fun e he=>(hb e he).1) hn,h3,fun r hr x=>?_⟩
 obtain ⟨v,l,hm,hv,hx⟩:=h.mem r hr
 rw [wD hb hn hm,hv.list]
 exact hx x
theorem AQ {L:List (List (List Nat))}:∀ {l:List (List Nat)},iG L l = none ↔ ∀ a ∈ l,fK a L = none
 | []=>⟨fun _ a h=>(by cases h),fun _=>rfl⟩
 | a :: l=>by
  rw [iG]
  have ih:=AQ (L:=L) (l:=l)
  cases hd:fK a L with
  | none=>
   dsimp only
   rw [ih]
   exact ⟨fun h x hx=>(mem_cons.1 hx).elim (fun e=>by rw [e]; exact hd) (h x),fun h x hx=>h x (mem_cons_of_mem _ hx)⟩
  | some d=>
   refine ⟨fun h=>?_,fun h=>?_⟩
   ·cases hb:iG L l with
    | none=>rw [hb] at h; cases h
    | some e=>
     rw [hb] at h
     dsimp only at h
     split at h <;> cases h
   ·have:=h a (mem_cons_self ..)
    rw [hd] at this; cases this
theorem DV {es:List (V × V)} (hb:fT es) {f:List Nat}:∀ (k:Nat) (x:List Nat),Dv es f k x -> (∀ j,j < k -> ¬ Dv es f j x) -> ∃ ys:List (List Nat),ys.length = k /\ ys.Nodup /\ (∀ y ∈ ys,y ∈ es.map ks) /\ ∀ y ∈ ys,∃ j,1 <= j /\ j <= k /\ Dv es f j y /\ ∀ i,i < j -> ¬ Dv es f i y
 | 0,x,_,_=>⟨[],rfl,List.Pairwise.nil,fun _ h=>(by cases h),fun _ h=>(by cases h)⟩
 | k + 1,x,.succ (nx:=nx) hx hr,hm=>by
  have hmin:∀ j,j < k -> ¬ Dv es f j nx:=fun j hj h=>hm (j + 1) (by omega) (.succ hx h)
  obtain ⟨ys,h1,h2,h3,h4⟩:=DV hb k nx hr hmin
  refine ⟨x :: ys,by rw [length_cons,h1],nodup_cons.2 ⟨fun hxy=>?_,h2⟩,fun y hy=>?_,fun y hy=>?_⟩
  ·obtain ⟨j,j1,j2,j3,j4⟩:=h4 x hxy
   exact hm j (by omega) j3
  ·rcases mem_cons.1 hy with rfl | hy
   ·obtain ⟨v,hv,-⟩:=Cf hb hx
    exact mem_map.2 ⟨_,hv,rfl⟩
   ·exact h3 y hy
  ·rcases mem_cons.1 hy with rfl | hy
   ·exact ⟨k + 1,by omega,Nat.le_refl _,.succ hx hr,hm⟩
   ·obtain ⟨j,j1,j2,j3⟩:=h4 y hy
    exact ⟨j,j1,by omega,j3⟩
theorem NG {es:List (V × V)} (hb:fT es) (hn:(es.map ks).Nodup) {f x:List Nat} {k:Nat} (h:Dv es f k x):∃ d,sW es f x = some d:=by
 have:∃ d,Dv es f d x /\ ∀ j,j < d -> ¬ Dv es f j x:=by
  induction k using Nat.strongRecOn with
  | _ k ih=>
   by_cases hex:∃ j,j < k /\ Dv es f j x
   ·obtain ⟨j,hj,hr⟩:=hex
    exact ih j hj hr
   ·exact ⟨k,h,fun j hj hr=>hex ⟨j,hj,hr⟩⟩
 obtain ⟨d,hr,hm⟩:=this
 obtain ⟨ys,h1,h2,h3,-⟩:=DV hb d x hr hm
 have:=uM h2 h3
 rw [h1,length_map] at this
 exact ⟨d,(kU hb hn).2 ⟨this,hr,hm⟩⟩
theorem Hw {rs:List aG} {es:List (V × V)} (h:NM rs es) (f:aX):iG (dJ es es.length [f]) (bR es f) ≠ none ↔ ∃ n,Dv es f (n + 1) f:=by
 have hb:=wN h.ok
 constructor
 ·intro hne
  have hne:∃ b,iG (dJ es es.length [f]) (bR es f) = some b:=by
   cases he:iG (dJ es es.length [f]) (bR es f) with
   | none=>exact absurd he hne
   | some b=>exact ⟨b,rfl⟩
  obtain ⟨b,hbo⟩:=hne
  obtain ⟨a,ha,hd⟩:=yR _ _ _ hbo
  exact ⟨b,.succ ha ((kU hb h.nodup).1 hd).2.1⟩
 ·rintro ⟨n,hr⟩ hno
  cases hr with
  | succ hx hr=>
   obtain ⟨d,hd⟩:=NG hb h.nodup hr
   have:=AQ.1 hno _ hx
   rw [show fK _ (dJ es es.length [f]) = some d from hd] at this
   cases this
end
end
section
section
variable {E:Env} {Z:Sg} {K:V -> Sg -> Prop}
theorem jN {α:Type} {p:α -> Bool}:∀ {l:List α} {k:Nat},bQ p l = some k -> ∃ x,l[k]? = some x /\ p x = true
 | [],_,h=>by cases h
 | x :: l,k,h=>by
  rw [bQ] at h
  by_cases hx:p x = true
  ·rw [if_pos hx] at h; cases h; exact ⟨x,rfl,hx⟩
  ·rw [if_neg hx] at h
   cases hf:bQ p l with
   | none=>rw [hf] at h; cases h
   | some j=>
    rw [hf] at h
    cases h
    obtain ⟨y,h1,h2⟩:=jN hf
    exact ⟨y,h1,h2⟩
structure Good (rs:List aG):Prop where
 short:ED rs
 known:∀ r ∈ rs,∀ n ∈ r.after,iB rs n = true
 len:rs.length <= 40
 rule:∀ r ∈ rs,bA r = 0
theorem J1 {s:aX} (h:bH s = true):s.length <= 40:=by
 unfold bH at h
 simp only [Bool.and_eq_true,decide_eq_true_eq] at h
 exact h.1.2
theorem yB {rs:List aG} (h:gF rs = 0):Good rs:=by
 unfold gF at h
 cases hf:rs.find? (fun r=>decide (bA r ≠ 0)) with
 | some r=>
  rw [hf] at h
  have:=List.find?_some hf
  rw [decide_eq_true_eq] at this
  exact absurd h this
 | none=>
  rw [hf] at h
  dsimp only at h
  have hr:∀ r ∈ rs,bA r = 0:=fun r hr=>by
   have:=List.find?_eq_none.1 hf r hr
   simpa using this
  by_cases h40:40 < rs.length
  ·rw [if_pos h40] at h; cases h
  rw [if_neg h40] at h
  cases hc:sH rs with
  | true=>rw [if_pos hc] at h; cases h
  | false=>
  rw [if_neg (by rw [hc]; simp)] at h
  cases hst:gJ rs with
  | true=>rw [if_pos hst] at h; cases h
  | false=>
  have hcl:∀ i r,rs[i]? = some r -> iB (rs.take i) r.name = false /\ r.outs.any (vG (rs.take i)) = false:=fun i r hi=>by
   have:=List.any_eq_false.1 hc i (mem_range.2 (List.getElem?_eq_some_iff.1 hi).1)
   rw [C1 hi] at this
   simpa using this
  have hform:∀ r ∈ rs,bH r.name = true /\ r.after.all bH = true:=fun r hm=>by
   have:=hr r hm
   unfold bA at this
   by_cases hfo:jM r = false
   ·rw [if_pos hfo] at this; cases this
   ·have hfo:jM r = true:=by simpa using hfo
    unfold jM at hfo
    simp only [Bool.and_eq_true] at hfo
    exact ⟨hfo.1.1.1.1.1,hfo.1.2⟩
  have before:∀ (i j:Nat) (p:aG),j < i -> rs[j]? = some p -> p ∈ rs.take i:=fun i j p hji hj=>mem_of_getElem? (by rw [List.getElem?_take_of_lt hji]; exact hj)
  refine ⟨⟨fun r hm=>J1 (hform r hm).1,fun r hm s hs=>J1 (List.all_eq_true.1 (hform r hm).2 s hs),?_,?_⟩,fun r hm n hn=>?_,by omega,hr⟩
  ·have key:∀ (i j:Nat) (p q:aG),j < i -> rs[i]? = some p -> rs[j]? = some q -> p.name ≠ q.name:=fun i j p q hji hp hq e=>by
    have:=(hcl i p hp).1
    rw [show iB (rs.take i) p.name = true from List.any_eq_true.2 ⟨q,before i j q hji hq,decide_eq_true e.symm⟩] at this
    cases this
   intro i j p q hp hq e
   rcases Nat.lt_trichotomy i j with g | g | g
   ·exact absurd e.symm (key j i q p g hq hp)
   ·exact g
   ·exact absurd e (key i j p q g hp hq)
  ·have key:∀ (i j:Nat) (p q:aG) (f:aX),j < i -> rs[i]? = some p -> rs[j]? = some q -> f ∈ p.outs -> f ∈ q.outs -> False:=fun i j p q f hji hp hq h1 h2=>by
    have:=(hcl i p hp).2
    rw [show p.outs.any (vG (rs.take i)) = true from List.any_eq_true.2 ⟨f,h1,List.any_eq_true.2 ⟨q,before i j q hji hq,decide_eq_true h2⟩⟩] at this
    cases this
   rintro f n m ⟨p,hp,h1,rfl⟩ ⟨q,hq,h2,rfl⟩
   obtain ⟨i,hi⟩:=mem_iff_getElem?.1 hp
   obtain ⟨j,hj⟩:=mem_iff_getElem?.1 hq
   rcases Nat.lt_trichotomy i j with g | g | g
   ·exact (key j i q p f g hj hi h2 h1).elim
   ·subst g
    rw [hi] at hj
    cases hj
    rfl
   ·exact (key i j p q f g hi hj h1 h2).elim
  ·have h1:=List.any_eq_false.1 hst r hm
   have h2:(r.after.any fun n=>decide (fP rs n = none)) = false:=by simpa using h1
   have h3:=List.any_eq_false.1 h2 n hn
   rw [tH] at h3
   simpa using h3
theorem Cg {rs:List aG} {es:List (V × V)} (g:Good rs) (h:NM rs es) {i:Nat} {r:aG} (hi:rs[i]? = some r) (x:aX):x ∈ bR es r.name ↔ ∃ k q,iP rs false i k = true /\ rs[k]? = some q /\ q.name = x:=by
 have hm:=mem_of_getElem? hi
 rw [h.next r hm]
 have hd:∀ k,iP rs false i k = true ↔ (∃ f ∈ r.ins,fC rs f = some k) \/ ∃ n ∈ r.after,fP rs n = some k:=fun k=>by
  unfold iP xU
  rw [hi]
  simp only [Bool.not_false,Bool.true_and,Bool.or_eq_true,List.any_eq_true,decide_eq_true_eq]
 constructor
 ·rintro (hx | ⟨f,hf,hmk⟩)
  ·have hk:=g.known r hm x hx
   unfold iB at hk
   rw [<- cB] at hk
   obtain ⟨k,hk⟩:=Option.isSome_iff_exists.1 hk
   obtain ⟨q,h1,h2⟩:=jN hk
   exact ⟨k,q,(hd k).2 (.inr ⟨x,hx,hk⟩),h1,of_decide_eq_true h2⟩
  ·obtain ⟨p,hp,hfp,rfl⟩:=hmk
   obtain ⟨k,hk⟩:=pL (p:=fun q:aG=>decide (f ∈ q.outs)) hp (decide_eq_true hfp)
   obtain ⟨q,h1,h2⟩:=jN hk
   exact ⟨k,q,(hd k).2 (.inl ⟨f,hf,hk⟩),h1,g.short.jJ f _ _ ⟨q,mem_of_getElem? h1,of_decide_eq_true h2,rfl⟩ ⟨p,hp,hfp,rfl⟩⟩
 ·rintro ⟨k,q,hk,hq,rfl⟩
  rcases (hd k).1 hk with ⟨f,hf,h1⟩ | ⟨n,hn,h1⟩
  ·obtain ⟨q',h2,h3⟩:=jN h1
   rw [hq] at h2
   cases h2
   exact .inr ⟨f,hf,q,mem_of_getElem? hq,of_decide_eq_true h3,rfl⟩
  ·obtain ⟨q',h2,h3⟩:=jN h1
   rw [hq] at h2
   cases h2
   rw [of_decide_eq_true h3]
   exact .inl hn
theorem PO {rs:List aG} {es:List (V × V)} (g:Good rs) (h:NM rs es) {i k:Nat} (hw:AxS.Way (iP rs false) i k):∀ {p q:aG},rs[i]? = some p -> rs[k]? = some q -> ∃ n,Dv es q.name (n + 1) p.name:=by
 induction hw with
 | one hm=>
  intro p q hp hq
  exact ⟨0,.succ ((Cg g h hp _).2 ⟨_,q,hm,hq,rfl⟩) .zero⟩
 | @cons i j k hm _ ih=>
  intro p q hp hq
  have hj:∃ s,rs[j]? = some s:=by
   unfold iP at hm
   rw [hp] at hm
   unfold xU at hm
   simp only [Bool.or_eq_true,Bool.and_eq_true,List.any_eq_true,decide_eq_true_eq] at hm
   rcases hm with ⟨f,-,h1⟩ | ⟨-,n,-,h1⟩
   ·obtain ⟨s,h2,-⟩:=jN h1; exact ⟨s,h2⟩
   ·obtain ⟨s,h2,-⟩:=jN h1; exact ⟨s,h2⟩
  obtain ⟨s,hs⟩:=hj
  obtain ⟨n,hr⟩:=ih hs hq
  exact ⟨n + 1,.succ ((Cg g h hp _).2 ⟨j,s,hm,hs,rfl⟩) hr⟩
theorem NF {es:List (V × V)} {f x:List Nat} (h:Dv es f 0 x):x = f:=by cases h; rfl
theorem JW {rs:List aG} {es:List (V × V)} (g:Good rs) (h:NM rs es) {k:Nat} {q:aG} (hq:rs[k]? = some q):∀ (n i:Nat) (p:aG),rs[i]? = some p -> Dv es q.name (n + 1) p.name -> AxS.Way (iP rs false) i k
 | n,i,p,hp,.succ (nx:=nx) hx hr=>by
  obtain ⟨j,s,hm,hs,rfl⟩:=(Cg g h hp _).1 hx
  cases n with
  | zero=>
   have e:s.name = q.name:=NF hr
   have:=g.short.nodup j k s q hs hq e
   subst this
   exact .one hm
  | succ n=>exact .cons hm (JW g h hq n j s hs hr)
theorem Gl {rs:List aG} {es:List (V × V)} (g:Good rs) (h:NM rs es):Ring rs ↔ ∃ r ∈ rs,iG (dJ es es.length [r.name]) (bR es r.name) ≠ none:=by
 constructor
 ·rintro ⟨i,hi,hw⟩
  have hr:rs[i]? = some rs[i]:=List.getElem?_eq_getElem hi
  obtain ⟨n,hn⟩:=PO g h hw hr hr
  exact ⟨_,mem_of_getElem? hr,(Hw h _).2 ⟨n,hn⟩⟩
 ·rintro ⟨r,hr,hb⟩
  obtain ⟨i,hi⟩:=mem_iff_getElem?.1 hr
  obtain ⟨n,hn⟩:=(Hw h _).1 hb
  exact ⟨i,(List.getElem?_eq_some_iff.1 hi).1,JW g h hi n i r hi hn⟩
end
end
section
section
variable {E:Env} {Z:Sg} {K:V -> Sg -> Prop}
theorem Mc {rs:List aG} {es:List (V × V)} (h:NM rs es) (hl:rs.length <= 1000) (g:Bool) (f:aX):oC [.imp g es,.str f] = some (nJ es f):=by
 show (match nI es,gH es,Nat.ble es.length 1000000 with
  | true,true,true=>some (nJ es f)
  | _,_,_=>none) = _
 rw [h.ok,h.nd,Nat.ble_eq_true_of_le (by rw [h.len]; omega)]
theorem C8 (es:List (V × V)) (f:aX):(iG (dJ es es.length [f]) (bR es f) = none /\ nJ es f = .aC) \/ (iG (dJ es es.length [f]) (bR es f) ≠ none /\ ∃ l full,nJ es f = .bL false ((f :: l).map fun s=>[V.str s]) full):=by
 unfold nJ
 dsimp only
 cases iG (dJ es es.length [f]) (bR es f) with
 | none=>exact .inl ⟨rfl,rfl⟩
 | some b=>exact .inr ⟨by simp,_,_,rfl⟩
theorem TE (h:bK E) {rs:List aG} {es:List (V × V)} (hn:NM rs es) (hl:rs.length <= 1000) (g:Bool) (f:aX):aB E 148 [.imp g es,.str f] Z K = K (nJ es f) Z:=by
 have h5:cP [] E.ty false (nJ es f) = some (nJ es f):=by
  rcases C8 es f with ⟨-,e⟩ | ⟨-,l,full,e⟩
  ·rw [e]; rfl
  ·rw [e]; exact DI rfl rfl
 have hi:Ax.bE (.imp g es) = true:=rfl
 exact sZ (args':=[.imp g es,.str f]) h.XJ h.Vc (by simp only [aW,dA,dG hi (cE hi)]) (Mc hn hl g f) h5
theorem Za (h:bK E) {rs:List aG} {es:List (V × V)} {g:Bool} (hg:Good rs) (hn:NM rs es) {Y:Sg} {w:V} (ow:bD aM 9 Y w (rs.map aG.name)) (F:FT) (g5:F.get 5 = .imp g es) (g6:F.get 6 = w) :
  R E (cutAt [1,1,1,1,1] (aA Tryz.f109).code) [] ⟨48,F⟩ Y (mD E (aA Tryz.f109).results (fun v σ1=>match cP σ1 E.ty false v with
   | some v=>(v = .aC /\ ¬ Ring rs) \/ ∃ x l,kE aM v (x :: l) /\ Ring rs
   | none=>False)):=by
 have h40:=hg.len
 have hll:(rs.map aG.name).length <= 40:=by rw [length_map]; omega
 obtain ⟨τ3,ns,hS,hperm,ow3,-,-⟩:=Eh ow (by omega) (fun x hx=>by
  obtain ⟨r,hr,rfl⟩:=mem_map.1 hx
  have:=hg.short.names r hr
  omega)
 have ks:=dN (fun K=>show aB E 64 [w] Y K = K (.fZ []) τ3 by rw [nP h.OG,hS]; rfl)
 have hnl:ns.length <= 40:=by rw [hperm.length_eq]; omega
 have lw:=pW h.bB rfl ow3.ls
 simp only [aA,Tryz.f109,KP,↓reduceIte,reduceEqDiff,reduceLT,cutAt,g6,ks,lw]
 refine aU (fun i F Y=>Y = τ3 /\ F.get 5 = .imp g es /\ F.get 35 = w /\ F.get 36 = .int .i64 (ns.length:Int) /\ F.get 37 = .int .i64 (i:Int) /\ ∀ (j:Nat) (x:aX),j < i -> ns[j]? = some x -> iG (dJ es es.length [x]) (bR es x) = none) ns.length ?_ ?_ ns.length 0 _ _ (by omega) ⟨rfl,(gY (by simp +decide only [GS,g5,and_self]) (fun j x hj=>by omega))⟩
 ·rintro i F Y hi ⟨rfl,g5,g35,g36,g37,hp⟩ next
  obtain ⟨x,hx⟩:∃ y,ns[i]? = some y:=⟨_,List.getElem?_eq_getElem hi⟩
  obtain ⟨p,r,e4,e5,-,e6,-⟩:=HB (Z:=Y) h.bB rfl h.c_ rfl ow3.ls hx
  have e6:=e6 rfl (by decide)
  rw [show r = [.str x] from e5] at e6
  have e6:loadAt E Y 9 p = some (.str x):=e6
  have hlt:=eE hi
  have hadd:=bY i (by omega)
  have kb:=fun (Z:Sg)=>dN (fun K=>TE (Z:=Z) (K:=K) h hn (by omega) g x)
  have hxm:x ∈ rs.map aG.name:=hperm.mem_iff.1 (mem_of_getElem? hx)
  obtain ⟨q,hq,hqx⟩:=mem_map.1 hxm
  rw [aF]
  rcases C8 es x with ⟨hb,e⟩ | ⟨hb,l,full,e⟩
  ·simp only [KP,↓reduceIte,reduceEqDiff,reduceLT,g5,g35,g36,g37,hlt,e4,e6,kb,e,CR h,hadd]
   refine next _ _ ⟨rfl,(gY (by simp +decide only [GS,g5,g35,g36,and_self]) (fun j y hj hy=>?_))⟩
   rcases Nat.lt_or_ge j i with gg | gg
   ·exact hp j y gg hy
   ·obtain rfl:j = i:=by omega
    rw [hx] at hy; cases hy; exact hb
  ·have hsn:∀ Z,cP Z E.ty false (.bL false ((x :: l).map fun s=>[V.str s]) full) = some (.bL false ((x :: l).map fun s=>[V.str s]) full):=fun Z=>DI rfl rfl
   simp only [KP,↓reduceIte,reduceEqDiff,reduceLT,reduceCtorEq,g5,g35,g36,g37,hlt,e4,e6,kb,e,CQ h,hsn]
   exact .inr ⟨x,l,.inr ⟨_,full,rfl,zS _⟩,(Gl hg hn).2 ⟨q,hq,by rw [hqx]; exact hb⟩⟩
 ·rintro F Y ⟨rfl,g5,g35,g36,g37,hp⟩
  have hlt:=eF (Nat.lt_irrefl ns.length)
  rw [aF]
  simp only [KP,↓reduceIte,reduceLT,g36,g37,hlt]
  refine .inl ⟨rfl,fun hr=>?_⟩
  obtain ⟨r,hr,hb⟩:=(Gl hg hn).1 hr
  obtain ⟨j,hj⟩:=mem_iff_getElem?.1 (hperm.mem_iff.2 (mem_map.2 ⟨r,hr,rfl⟩))
  exact hb (hp j r.name (List.getElem?_eq_some_iff.1 hj).1 hj)
theorem Pq (h:bK E) {a:V} {rs:List aG} (ha:LS dZ 37 Z a rs) (hs:∀ x ∈ rs,Small x) (hp:gF rs = 0):aB E 109 [a] Z fun v σ'=>σ' = Z /\ ((v = .aC /\ ¬ Ring rs) \/ ∃ x l,kE aM v (x :: l) /\ Ring rs):=by
 obtain ⟨a',ea,ia⟩:=eT h ha
 have hg:=yB hp
 have h40:=hg.len
 rw [aH h.XU h.Vn h.YF h.WX (args':=[a']) (by simp only [aW,ea]),aZ (by kernel_rfl)]
 have la:=cV h ia
 have key:=fun es g hn Y w ow F g5 g6=>Za (E:=E) (rs:=rs) (es:=es) (g:=g) (Y:=Y) (w:=w) h hg hn ow F g5 g6
 rw [show (aA Tryz.f109).code = .seq (cutAt [0] (aA Tryz.f109).code) (.seq (cutAt [1,0] (aA Tryz.f109).code) (.seq (cutAt [1,1,0] (aA Tryz.f109).code) (.seq (cutAt [1,1,1,0] (aA Tryz.f109).code) (.seq (cutAt [1,1,1,1,0] (aA Tryz.f109).code) (cutAt [1,1,1,1,1] (aA Tryz.f109).code))))) from rfl]
 generalize cutAt [1,1,1,1,1] (aA Tryz.f109).code = C at key ⊢
 simp only [aA,Tryz.f109,KP,↓reduceIte,reduceLT,reduceCtorEq,cutAt]
 refine aI (KD h (ia.ls _ 37) hs (by omega)) ?_
 rintro v σ' ⟨rfl,nm,rfl⟩
 rw [hp]
 simp only [KP,↓reduceIte,reduceEqDiff,reduceLT,reduceCtorEq]
 refine aI (RN h (ia.ls _ 37) hs hg.short (by omega)) ?_
 rintro v σ' ⟨rfl,es,rfl,hv⟩
 have hn:=Wi hg.short hv
 simp only [KP,↓reduceIte,reduceLT,reduceCtorEq,la]
 refine aU (fun i F Y=>F.get 5 = .imp false es /\ F.get 21 = a' /\ F.get 22 = .int .i64 (rs.length:Int) /\ F.get 23 = .int .i64 (i:Int) /\ ∃ w,F.get 6 = w /\ bD aM 9 Y w ((rs.take i).map aG.name)) rs.length ?_ ?_ rs.length 0 _ _ (by omega) (gY (by simp +decide only [GS,and_self]) ⟨.aC,(by simp +decide only [GS]),.inl ⟨rfl,rfl⟩⟩)
 ·rintro i F Y hi ⟨g5,g21,g22,g23,w,g6,ow⟩ next
  obtain ⟨r,hr⟩:∃ y,rs[i]? = some y:=⟨_,List.getElem?_eq_getElem hi⟩
  obtain ⟨g,p1,p2,p3,p4,e1,i1,i2,i3,i4⟩:=fD h ia hr
  have o1:=aL i1.bE
  have o2:=aL i2.bE
  have o3:=aL i3.bE
  have o4:=aL i4.bE
  have hlt:=eE hi
  have hadd:=bY i (by omega)
  have s1:(Y ++ [O.cells 37 [.str r.name,p1,p2,p3,p4] true])[Y.length]? = some (O.cells 37 [.str r.name,p1,p2,p3,p4] true):=aO
  have ow1:=ow.app [O.cells 37 [.str r.name,p1,p2,p3,p4] true]
  rw [aF]
  simp only [KP,Ax.loadAt,Ax.storeAt,↓reduceIte,reduceEqDiff,reduceLT,reduceLeDiff,reduceAdd,reduceMul,reduceCtorEq,h.c_,h.bB,h.bJ,g6,g21,g22,g23,hlt,e1,o1,o2,o3,o4,aO,cH]
  generalize Y ++ [O.cells 37 [.str r.name,p1,p2,p3,p4] true] = τ1 at *
  generalize Y.length = y at *
  obtain ⟨w',τ',hap,ow',-,-,-⟩:=jX (ats:=#[28,28]) (m:=[r.name]) (new:=[[.str r.name]]) h.bB rfl h.c_ rfl (by decide) (jD h) rfl (ow1.app [.cells 9 [.str r.name] true]) (mM rfl) (.one rfl) (eU (b:=1000) (by decide) (by rw [length_map,length_take]; simp only [length_cons,length_nil]; omega))
  simp only [KP,↓reduceIte,reduceEqDiff,reduceLT,g23,kL,hap,hadd]
  refine next _ _ (gY (by simp +decide only [GS,g5,g21,g22,and_self]) ⟨w',(by simp +decide only [GS]),?_⟩)
  rw [take_add_one,hr,List.map_append]
  exact ow'
 ·rintro F Y ⟨g5,g21,g22,g23,w,g6,ow⟩
  rw [take_of_length_le (Nat.le_refl _)] at ow
  have hlt:=eF (Nat.lt_irrefl rs.length)
  rw [aF]
  simp only [KP,↓reduceIte,reduceLT,g22,g23,hlt]
  exact key es false hn _ w ow _ (by simp +decide only [GS,g5]) (by simp +decide only [GS,g6])
theorem Uj (h:bK E) {a:V} {rs:List aG} (ha:LS dZ 37 Z a rs) (hs:∀ x ∈ rs,Small x) (hl:rs.length <= 4294967296):aB E 62 [a] Z fun v σ'=>σ' = Z /\ ∃ e nm,v = .fZ [.int .i64 e,.str nm] /\ HN rs e:=by
 obtain ⟨a',ea,ia⟩:=eT h ha
 rw [aH h.hs62 h.sp62 h.fn62 h.md62 (args':=[a']) (by simp only [aW,ea]),aZ (by kernel_rfl)]
 have d6:=h.Y0
 simp only [aA,Tryz.f62,cutAt,Option.getD_some] at d6
 simp only [aA,Tryz.f62,KP,↓reduceIte,reduceLT,reduceCtorEq,kV]
 refine aI (KD h (ia.ls _ 37) hs hl) ?_
 rintro v σ' ⟨rfl,nm,rfl⟩
 by_cases hp:gF rs = 0
 case neg=>
  have q:=decide_eq_false hp
  simp only [KP,↓reduceIte,reduceEqDiff,reduceLT,q]
  exact ⟨gF rs,nm,rfl,.inl ⟨hp,rfl⟩⟩
 have q:=decide_eq_true hp
 simp only [KP,↓reduceIte,reduceEqDiff,reduceLT,reduceCtorEq,q]
 refine aI (Pq h (ia.ls _ 37) hs hp) ?_
 rintro v σ' ⟨rfl,hv⟩
 rcases hv with ⟨rfl,hr⟩ | ⟨x,l,iv,hr⟩
 ·simp only [KP,↓reduceIte,reduceEqDiff,reduceLT,kV,CR h]
  exact ⟨0,[],rfl,.inr ⟨hp,.inr ⟨hr,rfl⟩⟩⟩
 ·obtain ⟨g,e1⟩:=gG h iv.is (i:=0) (x:=x) rfl
  have e1:indexAddr E 28 v (.int .i64 0) = some (.dU g [.str x]):=e1
  have en:oA E 28 true v .aC = some false:=by
   rcases iv with ⟨-,e⟩ | ⟨rs',full,rfl,-⟩
   ·cases e
   ·exact CQ h
  simp only [KP,Ax.loadAt,↓reduceIte,reduceEqDiff,reduceLT,h.c_,en,e1,aT d6,bM]
  exact ⟨3,x,rfl,.inr ⟨hp,.inl ⟨hr,rfl⟩⟩⟩
end
end
structure OrE (E:Env):Prop where
 hs14:E.hspec 14 = none
 P_:E.spec 14 = none
 fn14:E.fn 14 = some (aA Tryz.f14)
 md14:E.mode 14 = .eV
 hs66:E.hspec 66 = none
 sp66:E.spec 66 = none
 fn66:E.fn 66 = some (aA Tryz.f66)
 md66:E.mode 66 = .eV
 hs68:E.hspec 68 = none
 sp68:E.spec 68 = none
 fn68:E.fn 68 = some (aA Tryz.f68)
 md68:E.mode 68 = .eV
 hs15:E.hspec 15 = none
 P9:E.spec 15 = none
 fn15:E.fn 15 = some (aA Tryz.f15)
 md15:E.mode 15 = .eV
 hs69:E.hspec 69 = none
 sp69:E.spec 69 = none
 fn69:E.fn 69 = some (aA Tryz.f69)
 md69:E.mode 69 = .eV
 d14_15:aP E (cutAt [1,1,1,1,1,1,1,0,2,2,1,2,1,0] (aA Tryz.f14).code) = true
end Go.Proofs.YtlbbdpkjeeiahaaGreatDoor
end
