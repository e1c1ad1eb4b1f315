/- Part 17 of the proof. -/
import Derived.Test.YtmhchflckonklaaGreatDoorY
import Derived.Test.YtmhchflckonklaaGreatDoorZ15
import Derived.Test.YtmhchflckonklaaGreatDoorZ16
import Derived.Test.YtmhchflckonklaaGreatDoorZ13
set_option maxHeartbeats 8000000
set_option linter.unusedVariables false
set_option maxRecDepth 10000
open Nat (reduceLT reduceAdd reduceEqDiff reduceLeDiff reduceMul)
open Int (reduceNeg)
section
namespace Go.Proofs.YtmhchflckonklaaGreatDoor
open Go Go.Ax Go.AxS
section
section
variable {E:Env} {Z:Sg} {K:V -> Sg -> Prop}
theorem rG {k:Nat} {caps:List V} (hc:∀ c ∈ caps,Ax.bD c = true) (Z:Sg):aS Z E.ty true (.fn k [] caps) = some (.fn k [] caps):=by
 have e:aW (aS.one Z E.ty true) caps = some caps:=gK fun c hx=>by
  have:=cN (Z:=Z) (ty:=E.ty) (g:=true) (hc c hx) (cA (hc c hx))
  have h2:=hc c hx
  cases c <;> first | exact this | cases h2
 simp only [aS,e,aW]
theorem Rz (h:bH E) {a:V} {l:List bC} {k:Nat} {caps:List V} {P:bC -> Bool} (ha:LS aO 9 Z a l) (hsm:l.length <= 4294967296) (hc:∀ c ∈ caps,Ax.bD c = true) (hP:∀ (y:bC) (v:V),y ∈ l -> v = .str y -> aB E k ([v] ++ caps) [] fun u Y=>Y = [] /\ u = .bool (P y)) {fv:V} (ef:aS Z E.ty true fv = some (.fn k [] caps)):aB E 74 [a,fv] Z K = K (.int .i64 (idx (bQ P l))) Z:=by
 refine aB.of ?_
 obtain ⟨a',ea,ia⟩:=jU h ha
 rw [aH h.hs74 h.sp74 h.fn74 h.md74 (args':=[a',.fn k [] caps]) (by simp only [aW,ea,ef]),aX (by kernel_rfl)]
 have la:=bP h ia
 simp only [aA,Tryz.f74,KP,↓reduceIte,reduceLT,reduceAdd,reduceCtorEq,reduceNeg,la]
 refine aV (fun i F Y=>Y = [] /\ F.get 0 = a' /\ F.get 1 = .fn k [] caps /\ F.get 8 = .int .i64 (i:Int) /\ F.get 7 = .int .i64 (l.length:Int) /\ ∀ j y,j < i -> l[j]? = some y -> P y = false) l.length ?_ ?_ l.length 0 _ _ (by omega) ⟨rfl,(fE (by simp +decide only [GS,Z5]) (fun j y hj=>by omega))⟩
 ·rintro i F Y hi ⟨rfl,g0,g1,g8,g7,hp⟩ next
  obtain ⟨x,hx⟩:∃ x,l[i]? = some x:=⟨_,AT hi⟩
  obtain ⟨g,e1⟩:=gI h ia hx
  have hv:V.str x = .str x:=rfl
  have hlt:=dZ hi
  have hadd:=bY i (by omega)
  rw [aG]
  simp only [KP,Ax.loadAt,↓reduceIte,reduceEqDiff,reduceLT,reduceCtorEq,reduceNeg,h.dG,g0,g1,g7,g8,hlt,e1]
  refine aP (hP x _ (Z2 hx) hv) ?_
  rintro u Y ⟨rfl,rfl⟩
  by_cases hxs:P x = true
  ·simp only [KP,↓reduceIte,reduceEqDiff,reduceLT,reduceNeg,hxs]
   rw [fL (i:=i) (x:=x) hp hx hxs]
   exact rfl
  ·have hxs:P x = false:=by simpa using hxs
   simp only [KP,↓reduceIte,reduceEqDiff,reduceLT,reduceNeg,g8,hxs,hadd]
   refine next _ _ ⟨rfl,(fE (by simp +decide only [GS,g0,g1,g7,Z5]) (fun j y hj hy=>?_))⟩
   rcases ZZ j i with g | g
   ·exact hp j y g hy
   ·obtain rfl:j = i:=by omega
    rw [hx] at hy; cases hy; exact hxs
 ·rintro F Y ⟨rfl,g0,g1,g8,g7,hp⟩
  have hlt:=d_ (ZT l.length)
  rw [aG]
  simp only [KP,↓reduceIte,reduceLT,reduceNeg,g7,g8,hlt]
  rw [fM fun x hx=>by
   obtain ⟨j,hj,e⟩:=bu hx
   exact hp j x hj (by rw [AT hj,e])]
  exact rfl
theorem Ut (h:bH E) {a:V} {l:List bC} {k:Nat} {caps:List V} {P:bC -> Bool} (ha:LS aO 9 Z a l) (hsm:l.length <= 4294967296) (hc:∀ c ∈ caps,Ax.bD c = true) (hP:∀ (y:bC) (v:V),y ∈ l -> v = .str y -> aB E k ([v] ++ caps) [] fun u Y=>Y = [] /\ u = .bool (P y)):aB E 74 [a,.fn k [] caps] Z K = K (.int .i64 (idx (bQ P l))) Z:=Rz h ha hsm hc hP (rG hc Z)
theorem qY (h:bH E) {a:V} {l:List bC} {k:Nat} {caps:List V} {P:bC -> Bool} (ha:LS aO 9 Z a l) (hsm:l.length <= 4294967296) (hc:∀ c ∈ caps,Ax.bD c = true) (hP:∀ (y:bC) (v:V),y ∈ l -> v = .str y -> aB E k ([v] ++ caps) [] fun u Y=>Y = [] /\ u = .bool (P y)) {fv:V} (ef:aS Z E.ty true fv = some (.fn k [] caps)):aB E 76 [a,fv] Z K = K (.bool (l.any P)) Z:=by
 refine aB.of ?_
 obtain ⟨a',ea,ia⟩:=jU h ha
 rw [aH h.hs76 h.sp76 h.fn76 h.md76 (args':=[a',.fn k [] caps]) (by simp only [aW,ea,ef]),aX (by kernel_rfl)]
 have key:=fun K=>Ut (Z:=[]) (K:=K) h (ia.ls [] 9) hsm hc hP
 have kk:=dK key
 simp only [aA,Tryz.f76,KP,↓reduceIte,reduceEqDiff,reduceLT,reduceAdd,reduceCtorEq,kk,kG,cB]
 exact rfl
theorem KE (h:bH E) {a:V} {l:List bC} {k:Nat} {caps:List V} {P:bC -> Bool} (ha:LS aO 9 Z a l) (hsm:l.length <= 4294967296) (hc:∀ c ∈ caps,Ax.bD c = true) (hP:∀ (y:bC) (v:V),y ∈ l -> v = .str y -> aB E k ([v] ++ caps) [] fun u Y=>Y = [] /\ u = .bool (P y)):aB E 76 [a,.fn k [] caps] Z K = K (.bool (l.any P)) Z:=qY h ha hsm hc hP (rG hc Z)
theorem Kh (h:bH E) {a:V} {l:List bC} {k:Nat} {caps:List V} {P:bC -> Bool} (ha:LS aO 9 Z a l) (hsm:l.length <= 4294967296) (hc:∀ c ∈ caps,Ax.bD c = true) (hP:∀ (y:bC) (v:V),y ∈ l -> v = .str y -> aB E k ([v] ++ caps) [] fun u Y=>Y = [] /\ u = .bool (P y)):KC E 76 [a,.fn k [] caps] Z (.bool (l.any P)) Z:=dK fun _=>KE h ha hsm hc hP
theorem Mc (h:bH E) {a:V} {l:List AxS.Step} {k:Nat} {caps:List V} {P:AxS.Step -> Bool} (ha:LS eZ 113 Z a l) (hsm:l.length <= 4294967296) (hc:∀ c ∈ caps,Ax.bD c = true) (hP:∀ (y:AxS.Step) (v:V),y ∈ l -> Mj v y -> aB E k ([v] ++ caps) [] fun u Y=>Y = [] /\ u = .bool (P y)) {fv:V} (ef:aS Z E.ty true fv = some (.fn k [] caps)):aB E 246 [a,fv] Z K = K (.int .i64 (idx (bQ P l))) Z:=by
 refine aB.of ?_
 obtain ⟨a',ea,ia⟩:=BG h ha
 rw [aH h.XI h.U9 h.Yy h.WL (args':=[a',.fn k [] caps]) (by simp only [aW,ea,ef]),aX (by kernel_rfl)]
 have la:=lF h ia
 simp only [aA,Tryz.f246,KP,↓reduceIte,reduceLT,reduceAdd,reduceCtorEq,reduceNeg,la]
 refine aV (fun i F Y=>Y = [] /\ F.get 0 = a' /\ F.get 1 = .fn k [] caps /\ F.get 8 = .int .i64 (i:Int) /\ F.get 7 = .int .i64 (l.length:Int) /\ ∀ j y,j < i -> l[j]? = some y -> P y = false) l.length ?_ ?_ l.length 0 _ _ (by omega) ⟨rfl,(fE (by simp +decide only [GS,Z5]) (fun j y hj=>by omega))⟩
 ·rintro i F Y hi ⟨rfl,g0,g1,g8,g7,hp⟩ next
  obtain ⟨x,hx⟩:∃ x,l[i]? = some x:=⟨_,AT hi⟩
  obtain ⟨g,p1,p2,e1,i1,i2⟩:=uS h ia hx
  have hv:Mj (.agg [.str x.out,.int .i64 x.op,p1,p2,.int .i64 x.n]) x:=⟨p1,p2,rfl,i1,i2⟩
  have hlt:=dZ hi
  have hadd:=bY i (by omega)
  rw [aG]
  simp only [KP,Ax.loadAt,↓reduceIte,reduceEqDiff,reduceLT,reduceAdd,reduceCtorEq,reduceNeg,h.bN,g0,g1,g7,g8,hlt,e1]
  refine aP (hP x _ (Z2 hx) hv) ?_
  rintro u Y ⟨rfl,rfl⟩
  by_cases hxs:P x = true
  ·simp only [KP,↓reduceIte,reduceEqDiff,reduceLT,reduceNeg,hxs]
   rw [fL (i:=i) (x:=x) hp hx hxs]
   exact rfl
  ·have hxs:P x = false:=by simpa using hxs
   simp only [KP,↓reduceIte,reduceEqDiff,reduceLT,reduceNeg,g8,hxs,hadd]
   refine next _ _ ⟨rfl,(fE (by simp +decide only [GS,g0,g1,g7,Z5]) (fun j y hj hy=>?_))⟩
   rcases ZZ j i with g | g
   ·exact hp j y g hy
   ·obtain rfl:j = i:=by omega
    rw [hx] at hy; cases hy; exact hxs
 ·rintro F Y ⟨rfl,g0,g1,g8,g7,hp⟩
  have hlt:=d_ (ZT l.length)
  rw [aG]
  simp only [KP,↓reduceIte,reduceLT,reduceNeg,g7,g8,hlt]
  rw [fM fun x hx=>by
   obtain ⟨j,hj,e⟩:=bu hx
   exact hp j x hj (by rw [AT hj,e])]
  exact rfl
theorem OM (h:bH E) {a:V} {l:List AxS.Step} {k:Nat} {caps:List V} {P:AxS.Step -> Bool} (ha:LS eZ 113 Z a l) (hsm:l.length <= 4294967296) (hc:∀ c ∈ caps,Ax.bD c = true) (hP:∀ (y:AxS.Step) (v:V),y ∈ l -> Mj v y -> aB E k ([v] ++ caps) [] fun u Y=>Y = [] /\ u = .bool (P y)):aB E 246 [a,.fn k [] caps] Z K = K (.int .i64 (idx (bQ P l))) Z:=Mc h ha hsm hc hP (rG hc Z)
theorem Jd (h:bH E) {a:V} {l:List AxS.Step} {k:Nat} {caps:List V} {P:AxS.Step -> Bool} (ha:LS eZ 113 Z a l) (hsm:l.length <= 4294967296) (hc:∀ c ∈ caps,Ax.bD c = true) (hP:∀ (y:AxS.Step) (v:V),y ∈ l -> Mj v y -> aB E k ([v] ++ caps) [] fun u Y=>Y = [] /\ u = .bool (P y)) {fv:V} (ef:aS Z E.ty true fv = some (.fn k [] caps)):aB E 207 [a,fv] Z K = K (.bool (l.any P)) Z:=by
 refine aB.of ?_
 obtain ⟨a',ea,ia⟩:=BG h ha
 rw [aH h.XR h.Vh h.YH h.WV (args':=[a',.fn k [] caps]) (by simp only [aW,ea,ef]),aX (by kernel_rfl)]
 have key:=fun K=>OM (Z:=[]) (K:=K) h (ia.ls [] 113) hsm hc hP
 have kk:=dK key
 simp only [aA,Tryz.f207,KP,↓reduceIte,reduceEqDiff,reduceLT,reduceAdd,reduceCtorEq,kk,kG,cB]
 exact rfl
theorem Md (h:bH E) {a:V} {l:List AxS.Step} {k:Nat} {caps:List V} {P:AxS.Step -> Bool} (ha:LS eZ 113 Z a l) (hsm:l.length <= 4294967296) (hc:∀ c ∈ caps,Ax.bD c = true) (hP:∀ (y:AxS.Step) (v:V),y ∈ l -> Mj v y -> aB E k ([v] ++ caps) [] fun u Y=>Y = [] /\ u = .bool (P y)):aB E 207 [a,.fn k [] caps] Z K = K (.bool (l.any P)) Z:=Jd h ha hsm hc hP (rG hc Z)
theorem LB (h:bH E) {a:V} {l:List AxS.Step} {k:Nat} {caps:List V} {P:AxS.Step -> Bool} (ha:LS eZ 113 Z a l) (hsm:l.length <= 4294967296) (hc:∀ c ∈ caps,Ax.bD c = true) (hP:∀ (y:AxS.Step) (v:V),y ∈ l -> Mj v y -> aB E k ([v] ++ caps) [] fun u Y=>Y = [] /\ u = .bool (P y)):KC E 207 [a,.fn k [] caps] Z (.bool (l.any P)) Z:=dK fun _=>Md h ha hsm hc hP
theorem ZD (h:bH E) {a:V} {l:List bC} {s:bC} (ha:LS aO 9 Z a l) (hsm:l.length <= 4294967296):aB E 128 [a,.str s] Z K = K (.int .i64 (idx (bQ (fun x=>decide (x = s)) l))) Z:=by
 refine aB.of ?_
 obtain ⟨a',ea,ia⟩:=jU h ha
 rw [aH h.Ya h.VA h.YY h.Xf (args':=[a',.str s]) (by simp only [aW,ea,dB]),aX (by kernel_rfl)]
 have la:=bP h ia
 simp only [aA,Tryz.f128,KP,↓reduceIte,reduceLT,reduceAdd,reduceCtorEq,reduceNeg,la]
 refine aV (fun i F Y=>Y = [] /\ F.get 0 = a' /\ F.get 1 = .str s /\ F.get 8 = .int .i64 (i:Int) /\ F.get 7 = .int .i64 (l.length:Int) /\ ∀ j y,j < i -> l[j]? = some y -> y ≠ s) l.length ?_ ?_ l.length 0 _ _ (by omega) ⟨rfl,(fE (by simp +decide only [GS,Z5]) (fun j y hj=>by omega))⟩
 ·rintro i F Y hi ⟨rfl,g0,g1,g8,g7,hp⟩ next
  obtain ⟨x,hx⟩:∃ x,l[i]? = some x:=⟨_,AT hi⟩
  obtain ⟨g,e1⟩:=gI h ia hx
  have hlt:=dZ hi
  have hadd:=bY i (by omega)
  rw [aG]
  by_cases hxs:x = s
  ·have hs:=iD hxs.symm
   simp only [KP,Ax.loadAt,↓reduceIte,reduceEqDiff,reduceLT,reduceCtorEq,reduceNeg,h.dG,g0,g1,g7,g8,hlt,e1,hs]
   rw [fL (i:=i) (x:=x) (fun j y hj hy=>AS (hp j y hj hy)) hx (BY hxs)]
   exact rfl
  ·have hs:=gD (gr hxs)
   simp only [KP,Ax.loadAt,↓reduceIte,reduceEqDiff,reduceLT,reduceCtorEq,reduceNeg,h.dG,g0,g1,g7,g8,hlt,e1,hs,hadd]
   refine next _ _ ⟨rfl,(fE (by simp +decide only [GS,g0,g1,g7,Z5]) (fun j y hj hy=>?_))⟩
   rcases ZZ j i with g | g
   ·exact hp j y g hy
   ·obtain rfl:j = i:=by omega
    rw [hx] at hy; cases hy; exact hxs
 ·rintro F Y ⟨rfl,g0,g1,g8,g7,hp⟩
  have hlt:=d_ (ZT l.length)
  rw [aG]
  simp only [KP,↓reduceIte,reduceLT,reduceNeg,g7,g8,hlt]
  rw [fM fun x hx=>by
   obtain ⟨j,hj,e⟩:=bu hx
   exact AS (hp j x hj (by rw [AT hj,e]))]
  exact rfl
theorem Uy (h:bH E) {a:V} {l:List bC} {s:bC} (ha:LS aO 9 Z a l) (hsm:l.length <= 4294967296):aB E 94 [a,.str s] Z K = K (.bool (decide (s ∈ l))) Z:=by
 refine aB.of ?_
 obtain ⟨a',ea,ia⟩:=jU h ha
 rw [aH h.hs94 h.sp94 h.fn94 h.md94 (args':=[a',.str s]) (by simp only [aW,ea,dB]),aX (by kernel_rfl)]
 have kk:=dK (fun K=>ZD (Z:=[]) (s:=s) (K:=K) h (ia.ls [] 9) hsm)
 simp only [aA,Tryz.f94,KP,↓reduceIte,reduceEqDiff,reduceLT,reduceAdd,reduceCtorEq,kk,kG,cB,any_eq]
 exact rfl
theorem Ck (h:bH E) {a:V} {l:List bC} {s:bC} (ha:LS aO 9 Z a l) (hsm:l.length <= 4294967296):KC E 94 [a,.str s] Z (.bool (decide (s ∈ l))) Z:=dK fun _=>Uy h ha hsm
end
end
section
section
variable {E:Env} {Z:Sg} {K:V -> Sg -> Prop}
theorem Ul (h:bH E) {c:Nat}:aB E 262 [.int .i32 (c:Int)] Z K = K (.bool (sign c)) Z:=by
 refine aB.of ?_
 rw [aH h.XF h.U6 h.Yv h.WI (args':=[.int .i32 (c:Int)]) (by simp only [aW,show aS Z E.ty true (.int .i32 (c:Int)) = some (.int .i32 (c:Int)) from rfl]),aX (by kernel_rfl)]
 have hcut:(0 <= c /\ c <= 44) \/ (45 <= c /\ c <= 45) \/ (46 <= c /\ c <= 46) \/ (47 <= c /\ c <= 47) \/ (48 <= c /\ c <= 57) \/ (58 <= c /\ c <= 64) \/ (65 <= c /\ c <= 90) \/ (91 <= c /\ c <= 94) \/ (95 <= c /\ c <= 95) \/ (96 <= c /\ c <= 96) \/ (97 <= c /\ c <= 122) \/ (123 <= c /\ 123 <= c):=by omega
 rcases hcut with ⟨h1,h2⟩ | ⟨h1,h2⟩ | ⟨h1,h2⟩ | ⟨h1,h2⟩ | ⟨h1,h2⟩ | ⟨h1,h2⟩ | ⟨h1,h2⟩ | ⟨h1,h2⟩ | ⟨h1,h2⟩ | ⟨h1,h2⟩ | ⟨h1,h2⟩ | ⟨h1,h2⟩
 ·rw [show sign c = false from by unfold sign; simp; omega]
  have q0:decide ((97:Int) <= (c:Int)) = false:=AS (by omega)
  have q2:decide ((65:Int) <= (c:Int)) = false:=AS (by omega)
  have q4:decide ((48:Int) <= (c:Int)) = false:=AS (by omega)
  have q6:decide ((c:Int) = 46) = false:=AS (by omega)
  have q7:decide ((c:Int) = 95) = false:=AS (by omega)
  have q8:decide ((c:Int) = 45) = false:=AS (by omega)
  simp only [aA,Tryz.f262,KP,↓reduceIte,reduceEqDiff,reduceLT,reduceCtorEq,q0,q2,q4,q6,q7,q8]
  exact rfl
 ·rw [show sign c = true from by unfold sign; simp; omega]
  have q0:decide ((97:Int) <= (c:Int)) = false:=AS (by omega)
  have q2:decide ((65:Int) <= (c:Int)) = false:=AS (by omega)
  have q4:decide ((48:Int) <= (c:Int)) = false:=AS (by omega)
  have q6:decide ((c:Int) = 46) = false:=AS (by omega)
  have q7:decide ((c:Int) = 95) = false:=AS (by omega)
  have q8:decide ((c:Int) = 45) = true:=BY (by omega)
  simp only [aA,Tryz.f262,KP,↓reduceIte,reduceEqDiff,reduceLT,reduceCtorEq,q0,q2,q4,q6,q7,q8]
  exact rfl
 ·rw [show sign c = true from by unfold sign; simp; omega]
  have q0:decide ((97:Int) <= (c:Int)) = false:=AS (by omega)
  have q2:decide ((65:Int) <= (c:Int)) = false:=AS (by omega)
  have q4:decide ((48:Int) <= (c:Int)) = false:=AS (by omega)
  have q6:decide ((c:Int) = 46) = true:=BY (by omega)
  simp only [aA,Tryz.f262,KP,↓reduceIte,reduceEqDiff,reduceLT,reduceCtorEq,q0,q2,q4,q6]
  exact rfl
 ·rw [show sign c = false from by unfold sign; simp; omega]
  have q0:decide ((97:Int) <= (c:Int)) = false:=AS (by omega)
  have q2:decide ((65:Int) <= (c:Int)) = false:=AS (by omega)
  have q4:decide ((48:Int) <= (c:Int)) = false:=AS (by omega)
  have q6:decide ((c:Int) = 46) = false:=AS (by omega)
  have q7:decide ((c:Int) = 95) = false:=AS (by omega)
  have q8:decide ((c:Int) = 45) = false:=AS (by omega)
  simp only [aA,Tryz.f262,KP,↓reduceIte,reduceEqDiff,reduceLT,reduceCtorEq,q0,q2,q4,q6,q7,q8]
  exact rfl
 ·rw [show sign c = true from by unfold sign; simp; omega]
  have q0:decide ((97:Int) <= (c:Int)) = false:=AS (by omega)
  have q2:decide ((65:Int) <= (c:Int)) = false:=AS (by omega)
  have q4:decide ((48:Int) <= (c:Int)) = true:=BY (by omega)
  have q5:decide ((c:Int) <= 57) = true:=BY (by omega)
  simp only [aA,Tryz.f262,KP,↓reduceIte,reduceEqDiff,reduceLT,reduceCtorEq,q0,q2,q4,q5]
  exact rfl
 ·rw [show sign c = false from by unfold sign; simp; omega]
  have q0:decide ((97:Int) <= (c:Int)) = false:=AS (by omega)
  have q2:decide ((65:Int) <= (c:Int)) = false:=AS (by omega)
  have q4:decide ((48:Int) <= (c:Int)) = true:=BY (by omega)
  have q5:decide ((c:Int) <= 57) = false:=AS (by omega)
  have q6:decide ((c:Int) = 46) = false:=AS (by omega)
  have q7:decide ((c:Int) = 95) = false:=AS (by omega)
  have q8:decide ((c:Int) = 45) = false:=AS (by omega)
  simp only [aA,Tryz.f262,KP,↓reduceIte,reduceEqDiff,reduceLT,reduceCtorEq,q0,q2,q4,q5,q6,q7,q8]
  exact rfl
 ·rw [show sign c = true from by unfold sign; simp; omega]
  have q0:decide ((97:Int) <= (c:Int)) = false:=AS (by omega)
  have q2:decide ((65:Int) <= (c:Int)) = true:=BY (by omega)
  have q3:decide ((c:Int) <= 90) = true:=BY (by omega)
  simp only [aA,Tryz.f262,KP,↓reduceIte,reduceEqDiff,reduceLT,reduceCtorEq,q0,q2,q3]
  exact rfl
 ·rw [show sign c = false from by unfold sign; simp; omega]
  have q0:decide ((97:Int) <= (c:Int)) = false:=AS (by omega)
  have q2:decide ((65:Int) <= (c:Int)) = true:=BY (by omega)
  have q3:decide ((c:Int) <= 90) = false:=AS (by omega)
  have q4:decide ((48:Int) <= (c:Int)) = true:=BY (by omega)
  have q5:decide ((c:Int) <= 57) = false:=AS (by omega)
  have q6:decide ((c:Int) = 46) = false:=AS (by omega)
  have q7:decide ((c:Int) = 95) = false:=AS (by omega)
  have q8:decide ((c:Int) = 45) = false:=AS (by omega)
  simp only [aA,Tryz.f262,KP,↓reduceIte,reduceEqDiff,reduceLT,reduceCtorEq,q0,q2,q3,q4,q5,q6,q7,q8]
  exact rfl
 ·rw [show sign c = true from by unfold sign; simp; omega]
  have q0:decide ((97:Int) <= (c:Int)) = false:=AS (by omega)
  have q2:decide ((65:Int) <= (c:Int)) = true:=BY (by omega)
  have q3:decide ((c:Int) <= 90) = false:=AS (by omega)
  have q4:decide ((48:Int) <= (c:Int)) = true:=BY (by omega)
  have q5:decide ((c:Int) <= 57) = false:=AS (by omega)
  have q6:decide ((c:Int) = 46) = false:=AS (by omega)
  have q7:decide ((c:Int) = 95) = true:=BY (by omega)
  simp only [aA,Tryz.f262,KP,↓reduceIte,reduceEqDiff,reduceLT,reduceCtorEq,q0,q2,q3,q4,q5,q6,q7]
  exact rfl
 ·rw [show sign c = false from by unfold sign; simp; omega]
  have q0:decide ((97:Int) <= (c:Int)) = false:=AS (by omega)
  have q2:decide ((65:Int) <= (c:Int)) = true:=BY (by omega)
  have q3:decide ((c:Int) <= 90) = false:=AS (by omega)
  have q4:decide ((48:Int) <= (c:Int)) = true:=BY (by omega)
  have q5:decide ((c:Int) <= 57) = false:=AS (by omega)
  have q6:decide ((c:Int) = 46) = false:=AS (by omega)
  have q7:decide ((c:Int) = 95) = false:=AS (by omega)
  have q8:decide ((c:Int) = 45) = false:=AS (by omega)
  simp only [aA,Tryz.f262,KP,↓reduceIte,reduceEqDiff,reduceLT,reduceCtorEq,q0,q2,q3,q4,q5,q6,q7,q8]
  exact rfl
 ·rw [show sign c = true from by unfold sign; simp; omega]
  have q0:decide ((97:Int) <= (c:Int)) = true:=BY (by omega)
  have q1:decide ((c:Int) <= 122) = true:=BY (by omega)
  simp only [aA,Tryz.f262,KP,↓reduceIte,reduceEqDiff,reduceLT,reduceCtorEq,q0,q1]
  exact rfl
 ·rw [show sign c = false from by unfold sign; simp; omega]
  have q0:decide ((97:Int) <= (c:Int)) = true:=BY (by omega)
  have q1:decide ((c:Int) <= 122) = false:=AS (by omega)
  have q2:decide ((65:Int) <= (c:Int)) = true:=BY (by omega)
  have q3:decide ((c:Int) <= 90) = false:=AS (by omega)
  have q4:decide ((48:Int) <= (c:Int)) = true:=BY (by omega)
  have q5:decide ((c:Int) <= 57) = false:=AS (by omega)
  have q6:decide ((c:Int) = 46) = false:=AS (by omega)
  have q7:decide ((c:Int) = 95) = false:=AS (by omega)
  have q8:decide ((c:Int) = 45) = false:=AS (by omega)
  simp only [aA,Tryz.f262,KP,↓reduceIte,reduceEqDiff,reduceLT,reduceCtorEq,q0,q1,q2,q3,q4,q5,q6,q7,q8]
  exact rfl
theorem TG (h:bH E) {c:Nat}:KC E 262 [.int .i32 (c:Int)] Z (.bool (sign c)) Z:=dK fun _=>Ul h
theorem L9 (h:bH E) {c:Nat}:aB E 261 [.int .i32 (c:Int)] Z K = K (.bool (!sign c)) Z:=by
 refine aB.of ?_
 rw [aH h.XG h.U7 h.Yw h.WJ (args':=[.int .i32 (c:Int)]) (by simp only [aW,show aS Z E.ty true (.int .i32 (c:Int)) = some (.int .i32 (c:Int)) from rfl]),aX (by kernel_rfl)]
 have ks:=fun (Y:Sg)=>TG (Z:=Y) h (c:=c)
 simp only [aA,Tryz.f261,KP,↓reduceIte,reduceLT,reduceCtorEq,ks]
 exact rfl
theorem byte_at {s:bC} {pos ch:Nat} (hc:s[pos]? = some ch) (h:ch < 256):((rD s).get! pos).toNat = ch:=by
 show ((s.map UInt8.ofNat).toArray[pos]!).toNat = ch
 have e:(s.map UInt8.ofNat).toArray[pos]? = some (UInt8.ofNat ch):=by simp [hc]
 rw [getElem!_def,e]
 simp only [UInt8.toNat_ofNat']
 omega
theorem PN {s:bC} {pos ch:Nat} (hc:s[pos]? = some ch) (h1:¬ ch < 128) (h2:ch < 256):128 <= (Utf8.decode (rD s) pos).1:=by
 unfold Utf8.decode
 simp only [jl,byte_at hc h2,h1,ZK]
 repeat' split
 all_goals first
  | (simp only [Utf8.runeError]; omega)
  | (simp only [Z3,ck,IT,ge_iff_le] at *; omega)
theorem Gz {c:Nat} (h:128 <= c):sign c = false:=by
 unfold sign; simp; omega
theorem I2 (h:bH E):nY E 4 false (.bool true) (.bool true) = some true:=by unfold nY; rw [h.EJ]; rfl
theorem T1 (h:bH E):nY E 4 false (.bool false) (.bool true) = some false:=by unfold nY; rw [h.EJ]; rfl
theorem b_xF (h:bH E) {s:bC} {k:Nat} {P:Nat -> Bool} (hsm:s.length <= 4294967296) (hP:∀ (Z:Sg) (r:Nat),aB E k [.int .i32 (r:Int)] Z fun u Y=>Y = Z /\ u = .bool (P r)) (hhi:∀ r,128 <= r -> P r = true):aB E 317 [.str s,.fn k [] [],.bool true] Z fun v Y=>Y = Z /\ ∃ n:Int,v = .int .i64 n /\ decide (0 <= n) = s.any P:=by
 have ef:=rG (E:=E) (k:=k) (caps:=[]) (fun _ h=>by cases h) Z
 rw [aH h.XD h.U3 h.Yt h.WG (args':=[.str s,.fn k [] [],.bool true]) (by simp only [aW,dB,ef,show aS Z E.ty true (.bool true) = some (.bool true) from rfl]),aX (by kernel_rfl)]
 simp only [aA,Tryz.f317,KP,↓reduceIte,reduceLT,reduceAdd,reduceCtorEq,reduceNeg,h.dG,oU]
 refine aV (fun i F Y=>Y = [.HS s i] /\ F.get 1 = .fn k [] [] /\ F.get 2 = .bool true /\ F.get 10 = .ref 0 0 /\ ∀ j y,j < i -> s[j]? = some y -> P y = false) s.length ?_ ?_ s.length 0 _ _ (by omega) ⟨rfl,(iU (by simp +decide only [GS,Z5]) (fun j y hj=>by omega))⟩
 ·rintro i F Y hi ⟨rfl,g1,g2,g10,hp⟩ next
  obtain ⟨x,hx⟩:∃ x,s[i]? = some x:=⟨_,AT hi⟩
  rw [aG]
  by_cases h128:x < 128
  ·simp only [KP,↓reduceIte,reduceEqDiff,reduceLT,reduceNeg,g1,g10,vG,hx,h128]
   refine aP (hP _ x) ?_
   rintro u Y ⟨rfl,rfl⟩
   by_cases hxs:P x = true
   ·simp only [KP,↓reduceIte,reduceEqDiff,reduceLT,reduceNeg,g2,hxs,I2 h]
    exact ⟨_,rfl,by rw [show s.any P = true from bp.2 ⟨x,Z2 hx,hxs⟩]; exact BY (by omega)⟩
   ·have hxs:P x = false:=by simpa using hxs
    simp only [KP,↓reduceIte,reduceEqDiff,reduceLT,reduceNeg,g2,hxs,T1 h]
    refine next _ _ ⟨rfl,(iU (by simp +decide only [GS,g1,g2,g10,Z5]) (fun j y hj hy=>?_))⟩
    rcases ZZ j i with g | g
    ·exact hp j y g hy
    ·obtain rfl:j = i:=by omega
     rw [hx] at hy; cases hy; exact hxs
  have hany:s.any P = true:=bp.2 ⟨x,Z2 hx,hhi x (by omega)⟩
  by_cases h256:x < 256
  ·simp only [KP,↓reduceIte,reduceEqDiff,reduceLT,reduceNeg,g1,g10,vG,hx,h128,h256]
   refine aP (hP _ (Utf8.decode (rD s) i).1) ?_
   rintro u Y ⟨rfl,rfl⟩
   have hxs:=hhi _ (PN hx h128 h256)
   simp only [KP,↓reduceIte,reduceEqDiff,reduceLT,reduceNeg,g2,hxs,I2 h]
   exact ⟨_,rfl,by rw [hany]; exact BY (by omega)⟩
  ·simp only [KP,↓reduceIte,reduceEqDiff,reduceLT,reduceNeg,g1,g10,vG,hx,h128,h256]
   refine aP (hP _ 65533) ?_
   rintro u Y ⟨rfl,rfl⟩
   have hxs:=hhi _ (show 128 <= 65533 by omega)
   simp only [KP,↓reduceIte,reduceEqDiff,reduceLT,reduceNeg,g2,hxs,I2 h]
   exact ⟨_,rfl,by rw [hany]; exact BY (by omega)⟩
 ·rintro F Y ⟨rfl,g1,g2,g10,hp⟩
  have hx:s[s.length]? = none:=dn (Z1 _)
  rw [aG]
  simp only [KP,↓reduceIte,reduceLT,reduceNeg,g10,vG,hx]
  refine ⟨-1,rfl,?_⟩
  rw [show s.any P = false from jh.2 fun x hx=>by
   obtain ⟨j,hj,e⟩:=bu hx
   rw [hp j x hj (by rw [AT hj,e])]; simp]
  rfl
theorem Ur (h:bH E) {s:bC} {k:Nat} {P:Nat -> Bool} (hsm:s.length <= 4294967296) (hP:∀ (Z:Sg) (r:Nat),aB E k [.int .i32 (r:Int)] Z fun u Y=>Y = Z /\ u = .bool (P r)) (hhi:∀ r,128 <= r -> P r = true):aB E 296 [.str s,.fn k [] []] Z fun v Y=>Y = Z /\ ∃ n:Int,v = .int .i64 n /\ decide (0 <= n) = s.any P:=by
 have ef:=rG (E:=E) (k:=k) (caps:=[]) (fun _ h=>by cases h) Z
 rw [aH h.XE h.U5 h.Yu h.WH (args':=[.str s,.fn k [] []]) (by simp only [aW,dB,ef]),aX (by kernel_rfl)]
 simp only [aA,Tryz.f296,KP,↓reduceIte,reduceEqDiff,reduceLT,reduceAdd,reduceCtorEq]
 refine aP (b_xF h hsm hP hhi) ?_
 rintro v Y ⟨rfl,n,rfl,hn⟩
 simp only [KP,↓reduceIte,reduceLT]
 exact ⟨n,rfl,hn⟩
theorem RB (h:bH E) {s:bC} {k:Nat} {P:Nat -> Bool} (hsm:s.length <= 4294967296) (hP:∀ (Z:Sg) (r:Nat),aB E k [.int .i32 (r:Int)] Z fun u Y=>Y = Z /\ u = .bool (P r)) (hhi:∀ r,128 <= r -> P r = true):aB E 260 [.str s,.fn k [] []] Z K = K (.bool (s.any P)) Z:=by
 refine aB.of ?_
 have ef:=rG (E:=E) (k:=k) (caps:=[]) (fun _ h=>by cases h) Z
 rw [aH h.XH h.U8 h.Yx h.WK (args':=[.str s,.fn k [] []]) (by simp only [aW,dB,ef]),aX (by kernel_rfl)]
 simp only [aA,Tryz.f260,KP,↓reduceIte,reduceEqDiff,reduceLT,reduceAdd,reduceCtorEq]
 refine aP (Ur h hsm hP hhi) ?_
 rintro v Y ⟨rfl,n,rfl,hn⟩
 simp only [KP,↓reduceIte,reduceLT,hn]
 exact rfl
theorem ZB (h:bH E) {p:bC} (hsm:p.length <= 4294967296):aB E 233 [.str p] Z K = K (.bool (!rK p)) Z:=by
 refine aB.of ?_
 rw [aH h.XJ h.U_ h.Yz h.WM (args':=[.str p]) (by simp only [aW,dB]),aX (by kernel_rfl)]
 by_cases h1:p = []
 ·have q1:=iD h1
  simp only [aA,Tryz.f233,KP,↓reduceIte,reduceEqDiff,reduceLT,reduceCtorEq,lB,q1]
  rw [zD (.inl h1)]
  exact rfl
 have q1:=gD h1
 by_cases h2:p = [46]
 ·have q2:=iD h2
  simp only [aA,Tryz.f233,KP,↓reduceIte,reduceEqDiff,reduceLT,reduceCtorEq,lB,LR,q1,q2]
  rw [zD (.inr (.inl h2))]
  exact rfl
 have q2:=gD h2
 by_cases h3:p = [46,46]
 ·have q3:=iD h3
  simp only [aA,Tryz.f233,KP,↓reduceIte,reduceEqDiff,reduceLT,reduceCtorEq,lB,LR,Rh,q1,q2,q3]
  rw [zD (.inr (.inr h3))]
  exact rfl
 have q3:=gD h3
 have kc:=fun (Y:Sg)=>dK (fun K=>RB (Z:=Y) (K:=K) (s:=p) (k:=261) (P:=fun c=>!sign c) h hsm (fun Y r=>by rw [L9 h]; exact ⟨rfl,rfl⟩) (fun r hr=>by rw [Gz hr]; rfl))
 simp only [aA,Tryz.f233,KP,↓reduceIte,reduceEqDiff,reduceLT,reduceCtorEq,lB,LR,Rh,q1,q2,q3,kc]
 rw [IA h1 h2 h3,iy]
 exact rfl
theorem zO:∀ l:List bC,eP aO.P (l.map fun p=>[V.str p]) l
 | []=>.nil
 | _ :: l=>.cons rfl (zO l)
theorem OJ (h:bH E) {s:bC} (hsm:s.length <= 1000000000):aB E 232 [.str s] Z fun v Y=>Y = Z /\ jT aO v (cI 47 s):=by
 rw [aH h.XK h.Va h.YA h.WN (args':=[.str s]) (by simp only [aW,dB]),aX (by kernel_rfl)]
 have hs:lE [.str s,.str [47]] = some (.bS false ((cI 47 s).map fun p=>[V.str p]) true):=by
  unfold lE
  exact ZO (by omega)
 have iv:jT aO (.bS false ((cI 47 s).map fun p=>[V.str p]) true) (cI 47 s):=.inr ⟨_,_,rfl,zO _⟩
 have h5:∀ Z,cK Z E.ty false (.bS false ((cI 47 s).map fun p=>[V.str p]) true) = some (.bS false ((cI 47 s).map fun p=>[V.str p]) true):=fun Z=>(show cK Z E.ty false (.bS false ((cI 47 s).map fun p=>[V.str p]) true) = aS Z E.ty false (.bS false ((cI 47 s).map fun p=>[V.str p]) true) from rfl).trans (cN iv.is.bD iv.tag)
 have kc:=fun (Y:Sg)=>dK (fun K=>sZ (Z:=Y) (K:=K) (args:=[.str s,.str [47]]) (args':=[.str s,.str [47]]) h.XW h.Vm (by simp only [aW,dB]) hs (h5 []))
 have hb:Ax.bytes ⟨#[47]⟩ = [47]:=rfl
 simp only [aA,Tryz.f232,KP,↓reduceIte,reduceLT,reduceCtorEq,kc,h5,hb]
 exact iv
theorem E1 {s:bC} (h:¬ s.length <= 40):bG s = false:=by unfold bG; rw [AS h]; simp
theorem pP {s:bC} (h:oM s = true):bG s = false:=by unfold bG; rw [h]; rfl
theorem ZC (h:bH E) {s:bC}:aB E 193 [.str s] Z K = K (.bool (bG s)) Z:=by
 refine aB.of ?_
 rw [aH h.XT h.Vj h.YJ h.WX (args':=[.str s]) (by simp only [aW,dB]),aX (by kernel_rfl)]
 by_cases w0:s = [114,117,108,101]
 ·have e0:=iD w0
  simp only [aA,Tryz.f193,KP,↓reduceIte,reduceLT,reduceCtorEq,CJ,e0]
  rw [pP (by rw [w0]; rfl)]
  exact rfl
 have e0:=gD w0
 by_cases w1:s = [105,110]
 ·have e1:=iD w1
  simp only [aA,Tryz.f193,KP,↓reduceIte,reduceEqDiff,reduceLT,reduceCtorEq,CJ,Fp,e0,e1]
  rw [pP (by rw [w1]; rfl)]
  exact rfl
 have e1:=gD w1
 by_cases w2:s = [111,117,116]
 ·have e2:=iD w2
  simp only [aA,Tryz.f193,KP,↓reduceIte,reduceEqDiff,reduceLT,reduceCtorEq,CJ,Fp,I4,e0,e1,e2]
  rw [pP (by rw [w2]; rfl)]
  exact rfl
 have e2:=gD w2
 by_cases w3:s = [97,102,116,101,114]
 ·have e3:=iD w3
  simp only [aA,Tryz.f193,KP,↓reduceIte,reduceEqDiff,reduceLT,reduceCtorEq,CJ,Fp,I4,Om,e0,e1,e2,e3]
  rw [pP (by rw [w3]; rfl)]
  exact rfl
 have e3:=gD w3
 by_cases h40:s.length <= 40
 case neg=>
  have q1:decide ((s.length:Int) <= 40) = false:=AS (by omega)
  rw [E1 h40]
  simp only [aA,Tryz.f193,KP,↓reduceIte,reduceEqDiff,reduceLT,reduceCtorEq,fK h,CJ,Fp,I4,Om,e0,e1,e2,e3,q1]
  exact rfl
 have q1:decide ((s.length:Int) <= 40) = true:=BY (by omega)
 have hr:oM s = false:=by unfold oM; rw [AS w0,AS w1,AS w2,AS w3]; rfl
 rw [Nz hr h40]
 simp only [aA,Tryz.f193,KP,↓reduceIte,reduceEqDiff,reduceLT,reduceCtorEq,fK h,CJ,Fp,I4,Om,e0,e1,e2,e3,q1]
 refine aP (OJ h (by omega)) ?_
 rintro v σ' ⟨rfl,hv⟩
 have hPl:=rF 47 s
 have hPp:=tF (s:=s) rfl
 generalize cI 47 s = P at *
 have kc:=fun (Y:Sg)=>Kh (Z:=Y) (k:=233) (caps:=[]) (P:=fun p=>!rK p) h (hv.is.ls Y 9) (by omega) (fun _ h=>by cases h) (fun y v hy hv=>by
  subst hv
  have:=hPp y hy
  show aB E 233 [.str y] [] _
  rw [ZB h (by omega)]; exact ⟨rfl,rfl⟩)
 simp only [KP,↓reduceIte,reduceEqDiff,reduceLT,kc]
 rw [<- iy,Bool.not_not]
 exact rfl
theorem Xz (h:bH E) {s:bC}:KC E 193 [.str s] Z (.bool (bG s)) Z:=dK fun _=>ZC h
end
end
section
section
variable {E:Env} {Z:Sg} {K:V -> Sg -> Prop}
theorem OH (h:bH E) {p:Int}:aB E 177 [.int .i64 p] Z K = K (.gB [.int .i64 ((counts p).1:Nat),.int .i64 ((counts p).2.1:Nat),.int .i64 ((counts p).2.2:Nat)]) Z:=by
 refine aB.of ?_
 rw [aH h.XY h.Vo h.YN h.W5 (args':=[.int .i64 p]) (by simp only [aW,show aS Z E.ty true (.int .i64 p) = some (.int .i64 p) from rfl]),aX (by kernel_rfl)]
 by_cases p5:p = 5
 ·have q5:decide (p = 5) = true:=BY p5
  simp only [aA,Tryz.f177,KP,↓reduceIte,reduceEqDiff,reduceLT,reduceCtorEq,q5]
  rw [p5]
  exact rfl
 have q5:decide (p = 5) = false:=AS p5
 by_cases p6:p = 6
 ·have q6:decide (p = 6) = true:=BY p6
  simp only [aA,Tryz.f177,KP,↓reduceIte,reduceEqDiff,reduceLT,reduceCtorEq,q5,q6]
  rw [p6]
  exact rfl
 have q6:decide (p = 6) = false:=AS p6
 by_cases p7:p = 7
 ·have q7:decide (p = 7) = true:=BY p7
  simp only [aA,Tryz.f177,KP,↓reduceIte,reduceEqDiff,reduceLT,reduceCtorEq,q5,q6,q7]
  rw [p7]
  exact rfl
 have q7:decide (p = 7) = false:=AS p7
 by_cases p8:p = 8
 ·have q8:decide (p = 8) = true:=BY p8
  simp only [aA,Tryz.f177,KP,↓reduceIte,reduceEqDiff,reduceLT,reduceCtorEq,q5,q6,q7,q8]
  rw [p8]
  exact rfl
 have q8:decide (p = 8) = false:=AS p8
 have e:counts p = (1,1,0):=by unfold counts; rw [ZM p5,ZM p6,ZM p7,ZM p8]
 rw [e]
 simp only [aA,Tryz.f177,KP,↓reduceIte,reduceEqDiff,reduceLT,reduceCtorEq,q5,q6,q7,q8]
 exact rfl
theorem NZ (h:bH E) {p:Int}:KC E 177 [.int .i64 p] Z (.gB [.int .i64 ((counts p).1:Nat),.int .i64 ((counts p).2.1:Nat),.int .i64 ((counts p).2.2:Nat)]) Z:=dK fun _=>OH h
theorem L_ (h:bH E) {s:bC}:aB E 178 [.str s] Z K = K (.bool (decide (100 < s.length))) Z:=by
 refine aB.of ?_
 rw [aH h.XX h.Vn h.YM h.W4 (args':=[.str s]) (by simp only [aW,dB]),aX (by kernel_rfl)]
 simp only [aA,Tryz.f178,KP,↓reduceIte,reduceLT,reduceCtorEq,fK h]
 rw [show decide ((100:Int) < (s.length:Int)) = decide (100 < s.length) from by rw [l9]; omega]
 exact rfl
theorem GJ {x:AxS.Step}:cG x = true ↔ ((1 <= x.op /\ x.op <= 9) /\ ((counts x.op).1 <= x.args.length /\ x.args.length <= (counts x.op).2.1)) /\ x.lits.length = (counts x.op).2.2 /\ (x.lits.any fun l=>decide (100 < l.length)) = false /\ (x.op = 8 -> x.lits.head? ≠ some []) /\ (0 <= x.n /\ x.n <= 2000) /\ (x.op = 9 \/ x.n = 0):=by
 have e:x.lits.all (fun l=>decide (l.length <= 100)) = !(x.lits.any fun l=>decide (100 < l.length)):=by
  rw [List.not_any_eq_all_not]
  congr 1
  funext l
  rw [<- decide_not,l9]
  omega
 unfold cG
 rw [e]
 simp only [Z3,IT,and_assoc,da]
theorem qL {x:AxS.Step} (h:¬ (cG x = true)):cG x = false:=by simpa using h
theorem L7 (h:bH E) {v:V} {x:AxS.Step} (hv:Mj v x) (hsm:x.lits.length <= 4294967296):aB E 144 [v] Z K = K (.bool (cG x)) Z:=by
 refine aB.of ?_
 have ev:=hv.snap (E:=E) Z
 obtain ⟨a,b,rfl,ia,ib⟩:=hv
 have hoka:a.aZ = true:=aM ia.bD
 have hokb:b.aZ = true:=aM ib.bD
 rw [aH h.X8 h.Vx h.YV h.Xc (args':=[.agg [.str x.out,.int .i64 x.op,a,b,.int .i64 x.n]]) (by simp only [aW,ev]),aX (by kernel_rfl)]
 have la:=bP h ia
 have lb:=bP h ib
 have hm:=GJ (x:=x)
 have kc:=fun (Y:Sg)=>NZ (Z:=Y) h (p:=x.op)
 have kl:=fun (Y:Sg)=>Kh (Z:=Y) (k:=178) (caps:=[]) (P:=fun l=>decide (100 < l.length)) h (ib.ls Y 9) hsm (fun _ h=>by cases h) (fun y v hy hv=>by
  subst hv
  show aB E 178 [.str y] [] _
  rw [L_ h]; exact ⟨rfl,rfl⟩)
 have h8:x.op = 8 -> (counts x.op).2.2 = 2:=fun e=>by rw [e]; rfl
 generalize (counts x.op).1 = A at *
 generalize (counts x.op).2.1 = B at *
 generalize (counts x.op).2.2 = C at *
 by_cases p1:1 <= x.op
 case neg=>
  have q1:decide (x.op < 1) = true:=BY (by omega)
  rw [qL (mt hm.1 fun hh=>by omega)]
  simp only [aA,Tryz.f144,KP,Ax.loadAt,↓reduceIte,reduceEqDiff,reduceLT,reduceAdd,reduceCtorEq,h.mZ,h.bN,kc,hoka,hokb,q1]
  exact rfl
 have q1:decide (x.op < 1) = false:=AS (by omega)
 by_cases p2:x.op <= 9
 case neg=>
  have q2:decide ((9:Int) < x.op) = true:=BY (by omega)
  rw [qL (mt hm.1 fun hh=>by omega)]
  simp only [aA,Tryz.f144,KP,Ax.loadAt,↓reduceIte,reduceEqDiff,reduceLT,reduceAdd,reduceCtorEq,h.mZ,h.bN,kc,hoka,hokb,q1,q2]
  exact rfl
 have q2:decide ((9:Int) < x.op) = false:=AS (by omega)
 by_cases p3:A <= x.args.length
 case neg=>
  have q3:decide ((x.args.length:Int) < (A:Int)) = true:=BY (by omega)
  rw [qL (mt hm.1 fun hh=>by omega)]
  simp only [aA,Tryz.f144,KP,Ax.loadAt,↓reduceIte,reduceEqDiff,reduceLT,reduceAdd,reduceCtorEq,h.mZ,h.a_,h.bN,kc,la,hoka,hokb,q1,q2,q3]
  exact rfl
 have q3:decide ((x.args.length:Int) < (A:Int)) = false:=AS (by omega)
 by_cases p4:x.args.length <= B
 case neg=>
  have q4:decide ((B:Int) < (x.args.length:Int)) = true:=BY (by omega)
  rw [qL (mt hm.1 fun hh=>by omega)]
  simp only [aA,Tryz.f144,KP,Ax.loadAt,↓reduceIte,reduceEqDiff,reduceLT,reduceAdd,reduceCtorEq,h.mZ,h.a_,h.bN,kc,la,hoka,hokb,q1,q2,q3,q4]
  exact rfl
 have q4:decide ((B:Int) < (x.args.length:Int)) = false:=AS (by omega)
 by_cases p5:x.lits.length = C
 case neg=>
  have q5:decide ((x.lits.length:Int) = (C:Int)) = false:=AS (by omega)
  rw [qL (mt hm.1 fun hh=>by omega)]
  simp only [aA,Tryz.f144,KP,Ax.loadAt,↓reduceIte,reduceEqDiff,reduceLT,reduceAdd,reduceCtorEq,h.mZ,h.a_,h.bN,kc,la,lb,hoka,hokb,q1,q2,q3,q4,q5]
  exact rfl
 have q5:decide ((x.lits.length:Int) = (C:Int)) = true:=BY (by omega)
 by_cases p6:(x.lits.any fun l=>decide (100 < l.length)) = true
 ·rw [qL (mt hm.1 fun hh=>by rw [p6] at hh; simp at hh)]
  simp only [aA,Tryz.f144,KP,Ax.loadAt,↓reduceIte,reduceEqDiff,reduceLT,reduceAdd,reduceCtorEq,h.mZ,h.a_,h.bN,kc,kl,la,lb,hoka,hokb,q1,q2,q3,q4,q5,p6]
  exact rfl
 have q6:(x.lits.any fun l=>decide (100 < l.length)) = false:=by simpa using p6
 by_cases p8:x.op = 8
 ·have q8:decide (x.op = 8) = true:=BY p8
  have hC:=h8 p8
  obtain ⟨y,r,hyr⟩:=jr (show x.lits ≠ [] from fun e=>by rw [e] at p5; simp at p5; omega)
  obtain ⟨g,e1⟩:=gI h ib (i:=0) (x:=y) (by rw [hyr]; rfl)
  have e1:indexAddr E 24 b (.int .i64 0) = some (.cW g [.str y]):=e1
  by_cases hy:y = []
  ·have e2:=iD hy
   rw [qL (mt hm.1 fun hh=>hh.2.2.2.1 p8 (by rw [hyr,hy]; rfl))]
   simp only [aA,Tryz.f144,KP,Ax.loadAt,↓reduceIte,reduceEqDiff,reduceLT,reduceAdd,reduceCtorEq,h.mZ,h.dG,h.a_,h.bN,lB,kc,kl,la,lb,hoka,hokb,q1,q2,q3,q4,q5,q6,q8,e1,e2]
   exact rfl
  have e2:=gD hy
  have hh8:x.op = 8 -> x.lits.head? ≠ some []:=fun _=>by rw [hyr]; simpa using hy
  by_cases p9:0 <= x.n
  case neg=>
   have q9:decide (x.n < 0) = true:=BY (by omega)
   rw [qL (mt hm.1 fun hh=>by omega)]
   simp only [aA,Tryz.f144,KP,Ax.loadAt,↓reduceIte,reduceEqDiff,reduceLT,reduceAdd,reduceCtorEq,h.mZ,h.dG,h.a_,h.bN,lB,kc,kl,la,lb,hoka,hokb,q1,q2,q3,q4,q5,q6,q8,e1,e2,q9]
   exact rfl
  have q9:decide (x.n < 0) = false:=AS (by omega)
  by_cases p10:x.n <= 2000
  case neg=>
   have FE:decide ((2000:Int) < x.n) = true:=BY (by omega)
   rw [qL (mt hm.1 fun hh=>by omega)]
   simp only [aA,Tryz.f144,KP,Ax.loadAt,↓reduceIte,reduceEqDiff,reduceLT,reduceAdd,reduceCtorEq,h.mZ,h.dG,h.a_,h.bN,lB,kc,kl,la,lb,hoka,hokb,q1,q2,q3,q4,q5,q6,q8,e1,e2,q9,FE]
   exact rfl
  have FE:decide ((2000:Int) < x.n) = false:=AS (by omega)
  by_cases p11:x.op = 9
  ·have HU:decide (x.op = 9) = true:=BY p11
   rw [hm.2 ⟨⟨⟨p1,p2⟩,p3,p4⟩,p5,q6,hh8,⟨p9,p10⟩,.inl p11⟩]
   simp only [aA,Tryz.f144,KP,Ax.loadAt,↓reduceIte,reduceEqDiff,reduceLT,reduceAdd,reduceCtorEq,h.mZ,h.dG,h.a_,h.bN,lB,kc,kl,la,lb,hoka,hokb,q1,q2,q3,q4,q5,q6,q8,e1,e2,q9,FE,HU]
   exact rfl
  have HU:decide (x.op = 9) = false:=AS p11
  by_cases p12:x.n = 0
  case neg=>
   have Gn:decide (x.n = 0) = false:=AS (by omega)
   rw [qL (mt hm.1 fun hh=>by omega)]
   simp only [aA,Tryz.f144,KP,Ax.loadAt,↓reduceIte,reduceEqDiff,reduceLT,reduceAdd,reduceCtorEq,h.mZ,h.dG,h.a_,h.bN,lB,kc,kl,la,lb,hoka,hokb,q1,q2,q3,q4,q5,q6,q8,e1,e2,q9,FE,HU,Gn]
   exact rfl
  have Gn:decide (x.n = 0) = true:=BY (by omega)
  rw [hm.2 ⟨⟨⟨p1,p2⟩,p3,p4⟩,p5,q6,hh8,⟨p9,p10⟩,.inr p12⟩]
  simp only [aA,Tryz.f144,KP,Ax.loadAt,↓reduceIte,reduceEqDiff,reduceLT,reduceAdd,reduceCtorEq,h.mZ,h.dG,h.a_,h.bN,lB,kc,kl,la,lb,hoka,hokb,q1,q2,q3,q4,q5,q6,q8,e1,e2,q9,FE,HU,Gn]
  exact rfl
 ·have q8:decide (x.op = 8) = false:=AS p8
  have hh8:x.op = 8 -> x.lits.head? ≠ some []:=fun e=>absurd e p8
  by_cases p9:0 <= x.n
  case neg=>
   have q9:decide (x.n < 0) = true:=BY (by omega)
   rw [qL (mt hm.1 fun hh=>by omega)]
   simp only [aA,Tryz.f144,KP,Ax.loadAt,↓reduceIte,reduceEqDiff,reduceLT,reduceAdd,reduceCtorEq,h.mZ,h.a_,h.bN,kc,kl,la,lb,hoka,hokb,q1,q2,q3,q4,q5,q6,q8,q9]
   exact rfl
  have q9:decide (x.n < 0) = false:=AS (by omega)
  by_cases p10:x.n <= 2000
  case neg=>
   have FE:decide ((2000:Int) < x.n) = true:=BY (by omega)
   rw [qL (mt hm.1 fun hh=>by omega)]
   simp only [aA,Tryz.f144,KP,Ax.loadAt,↓reduceIte,reduceEqDiff,reduceLT,reduceAdd,reduceCtorEq,h.mZ,h.a_,h.bN,kc,kl,la,lb,hoka,hokb,q1,q2,q3,q4,q5,q6,q8,q9,FE]
   exact rfl
  have FE:decide ((2000:Int) < x.n) = false:=AS (by omega)
  by_cases p11:x.op = 9
  ·have HU:decide (x.op = 9) = true:=BY p11
   rw [hm.2 ⟨⟨⟨p1,p2⟩,p3,p4⟩,p5,q6,hh8,⟨p9,p10⟩,.inl p11⟩]
   simp only [aA,Tryz.f144,KP,Ax.loadAt,↓reduceIte,reduceEqDiff,reduceLT,reduceAdd,reduceCtorEq,h.mZ,h.a_,h.bN,kc,kl,la,lb,hoka,hokb,q1,q2,q3,q4,q5,q6,q8,q9,FE,HU]
   exact rfl
  have HU:decide (x.op = 9) = false:=AS p11
  by_cases p12:x.n = 0
  case neg=>
   have Gn:decide (x.n = 0) = false:=AS (by omega)
   rw [qL (mt hm.1 fun hh=>by omega)]
   simp only [aA,Tryz.f144,KP,Ax.loadAt,↓reduceIte,reduceEqDiff,reduceLT,reduceAdd,reduceCtorEq,h.mZ,h.a_,h.bN,kc,kl,la,lb,hoka,hokb,q1,q2,q3,q4,q5,q6,q8,q9,FE,HU,Gn]
   exact rfl
  have Gn:decide (x.n = 0) = true:=BY (by omega)
  rw [hm.2 ⟨⟨⟨p1,p2⟩,p3,p4⟩,p5,q6,hh8,⟨p9,p10⟩,.inr p12⟩]
  simp only [aA,Tryz.f144,KP,Ax.loadAt,↓reduceIte,reduceEqDiff,reduceLT,reduceAdd,reduceCtorEq,h.mZ,h.a_,h.bN,kc,kl,la,lb,hoka,hokb,q1,q2,q3,q4,q5,q6,q8,q9,FE,HU,Gn]
  exact rfl
theorem Lt (h:bH E) {v:V} {x:AxS.Step} (hv:Mj v x) (hsm:x.lits.length <= 4294967296):KC E 144 [v] Z (.bool (cG x)) Z:=dK fun _=>L7 h hv hsm
end
end
section
section
variable {E:Env} {Z:Sg} {K:V -> Sg -> Prop}
theorem Eo (h:bH E) {s:bC}:aB E 206 [.str s] Z K = K (.bool (!bG s)) Z:=by
 refine aB.of ?_
 rw [aH h.XS h.Vi h.YI h.WW (args':=[.str s]) (by simp only [aW,dB]),aX (by kernel_rfl)]
 have kc:=fun (Y:Sg)=>Xz (Z:=Y) h (s:=s)
 simp only [aA,Tryz.f206,KP,↓reduceIte,reduceLT,reduceCtorEq,kc]
 exact rfl
theorem D7 (h:bH E) {s:bC}:KC E 206 [.str s] Z (.bool (!bG s)) Z:=dK fun _=>Eo h
theorem Be (h:bH E) {a:V} {l:List bC} (ha:LS aO 9 Z a l) (hsm:l.length <= 4294967296):KC E 76 [a,.fn 206 [] []] Z (.bool (!(l.all bG))) Z:=dK fun _=>by rw [iy]; exact KE (k:=206) (caps:=[]) (P:=fun s=>!bG s) h ha hsm (fun _ h=>by cases h) (fun y v hy hv=>by subst hv; show aB E 206 [.str y] [] _; rw [Eo h]; exact ⟨rfl,rfl⟩)
def KX (s:AxS.Step):Bool:=bG s.out && s.args.all bG && cG s
theorem Rt (h:bH E) {v:V} {x:AxS.Step} (hv:Mj v x) (h1:x.args.length <= 4294967296) (h2:x.lits.length <= 4294967296):aB E 208 [v] Z K = K (.bool (!KX x)) Z:=by
 refine aB.of ?_
 have ev:=hv.snap (E:=E) Z
 obtain ⟨a,b,rfl,ia,ib⟩:=hv
 have hoka:a.aZ = true:=aM ia.bD
 have hokb:b.aZ = true:=aM ib.bD
 rw [aH h.XQ h.Vg h.YG h.WU (args':=[.agg [.str x.out,.int .i64 x.op,a,b,.int .i64 x.n]]) (by simp only [aW,ev]),aX (by kernel_rfl)]
 have k1:=fun (Y:Sg)=>D7 (Z:=Y) h (s:=x.out)
 have k2:=fun (Y:Sg)=>Be (Z:=Y) h (ia.ls Y 9) h1
 have k3:=fun (Y:Sg)=>Lt (Z:=Y) h (v:=.agg [.str x.out,.int .i64 x.op,a,b,.int .i64 x.n]) ⟨a,b,rfl,ia,ib⟩ h2
 unfold KX
 cases e1:bG x.out with
 | false=>
  simp only [aA,Tryz.f208,KP,Ax.loadAt,↓reduceIte,reduceEqDiff,reduceLT,reduceAdd,reduceCtorEq,h.dG,h.bN,hoka,hokb,k1,e1]
  exact rfl
 | true=>
  cases e2:x.args.all bG with
  | false=>
   simp only [aA,Tryz.f208,KP,Ax.loadAt,↓reduceIte,reduceEqDiff,reduceLT,reduceAdd,reduceCtorEq,h.dG,h.a_,h.bN,hoka,hokb,k1,k2,e1,e2]
   exact rfl
  | true=>
   simp only [aA,Tryz.f208,KP,Ax.loadAt,↓reduceIte,reduceEqDiff,reduceLT,reduceAdd,reduceCtorEq,h.dG,h.a_,h.bN,hoka,hokb,k1,k2,k3,e1,e2]
   exact rfl
theorem Ec (r:aC):kH r = (bG r.name && decide (r.outs ≠ []) && r.ins.all bG && r.outs.all bG && r.after.all bG && r.steps.all KX):=rfl
theorem Rs (h:bH E) {v:V} {x:aC} (hv:HN v x) (hs:Small x):aB E 175 [v] Z K = K (.bool (kH x)) Z:=by
 refine aB.of ?_
 have ev:=hv.snap (E:=E) Z
 obtain ⟨a,b,c,d,rfl,ia,ib,ic,id⟩:=hv
 have o1:=aM ia.bD
 have o2:=aM ib.bD
 have o3:=aM ic.bD
 have o4:=aM id.bD
 have l1:=hs.ins
 have l2:=hs.outs
 have l3:=hs.after
 have l4:=hs.steps
 rw [aH h.X0 h.Vq h.YP h.W7 (args':=[.agg [.str x.name,a,b,c,d]]) (by simp only [aW,ev]),aX (by kernel_rfl)]
 have lb:=bP h ib
 have kn:=fun (Y:Sg)=>D7 (Z:=Y) h (s:=x.name)
 have k1:=fun (Y:Sg)=>Be (Z:=Y) h (ia.ls Y 9) (by omega)
 have k2:=fun (Y:Sg)=>Be (Z:=Y) h (ib.ls Y 9) (by omega)
 have k3:=fun (Y:Sg)=>Be (Z:=Y) h (ic.ls Y 9) (by omega)
 have k4:=fun (Y:Sg)=>LB (Z:=Y) (k:=208) (caps:=[]) (P:=fun s=>!KX s) h (id.ls Y 113) (by omega) (fun _ h=>by cases h) (fun y v hy hv=>by
  have hy1:=hs.args y hy
  have hy2:=hs.lits y hy
  show aB E 208 [v] [] _
  rw [Rt h hv (by omega) (by omega)]; exact ⟨rfl,rfl⟩)
 rw [Ec]
 cases e0:bG x.name with
 | false=>
  simp only [aA,Tryz.f175,KP,Ax.loadAt,↓reduceIte,reduceEqDiff,reduceLT,reduceAdd,reduceCtorEq,h.dG,h.bK,o1,o2,o3,o4,kn,e0]
  exact rfl
 | true=>
 by_cases h0:x.outs = []
 ·have q0:decide ((x.outs.length:Int) = 0) = true:=BY (by rw [h0]; rfl)
  simp only [aA,Tryz.f175,KP,Ax.loadAt,↓reduceIte,reduceEqDiff,reduceLT,reduceAdd,reduceCtorEq,h.dG,h.a_,h.bK,o1,o2,o3,o4,kn,e0,lb,q0]
  rw [h0]
  exact rfl
 have q0:decide ((x.outs.length:Int) = 0) = false:=AS (by have:=ff.2 h0; omega)
 rw [show decide (x.outs ≠ []) = true from BY h0]
 have hf:Ax.fill (fun j=>some (j * 1,1)) (iA 3 [V.aD]) [(0,a),(1,b),(2,c)] = some [a,b,c]:=by
  rcases ia with ⟨rfl,-⟩ | ⟨_,_,_,rfl,-⟩ <;> rcases ib with ⟨rfl,-⟩ | ⟨_,_,_,rfl,-⟩ <;> rcases ic with ⟨rfl,-⟩ | ⟨_,_,_,rfl,-⟩ <;> rfl
 have lz:∀ Z,lenOf E Z 40 (.sl 1 0 3 none) = some 3:=fun Z=>by unfold lenOf; rw [h.Mx]
 have i0:indexAddr E 40 (.sl 1 0 3 none) (.int .i64 0) = some (.ref 1 0):=by unfold Ax.indexAddr; simp only [h.Mx,h.a_]; rfl
 have i1:indexAddr E 40 (.sl 1 0 3 none) (.int .i64 1) = some (.ref 1 1):=by unfold Ax.indexAddr; simp only [h.Mx,h.a_]; rfl
 have i2:indexAddr E 40 (.sl 1 0 3 none) (.int .i64 2) = some (.ref 1 2):=by unfold Ax.indexAddr; simp only [h.Mx,h.a_]; rfl
 have d0:decide ((0:Int) < ((3:Nat):Int)) = true:=rfl
 have d1:decide ((1:Int) < ((3:Nat):Int)) = true:=rfl
 have d2:decide ((2:Int) < ((3:Nat):Int)) = true:=rfl
 have d3:decide ((3:Int) < ((3:Nat):Int)) = false:=rfl
 have w1:wr .i64 1 = 1:=rfl
 have w2:wr .i64 2 = 2:=rfl
 have w3:wr .i64 3 = 3:=rfl
 simp only [aA,Tryz.f175,KP,Ax.loadAt,↓reduceIte,reduceEqDiff,reduceLT,reduceLeDiff,reduceAdd,reduceMul,reduceCtorEq,h.dG,h.a_,h.Mx,h.bK,o1,o2,o3,o4,kn,e0,lb,q0,hf,lz]
 rw [aG]
 cases e1:x.ins.all bG with
 | false=>
  simp only [KP,Ax.loadAt,↓reduceIte,reduceEqDiff,reduceLT,h.a_,k1,e1,i0,d0]
  exact rfl
 | true=>
 simp only [KP,Ax.loadAt,↓reduceIte,reduceEqDiff,reduceLT,Int.reduceAdd,h.a_,k1,e1,w1,i0,d0]
 rw [aG]
 cases e2:x.outs.all bG with
 | false=>
  simp only [KP,Ax.loadAt,↓reduceIte,reduceEqDiff,reduceLT,h.a_,k2,e2,i1,d1]
  exact rfl
 | true=>
 simp only [KP,Ax.loadAt,↓reduceIte,reduceEqDiff,reduceLT,Int.reduceAdd,h.a_,k2,e2,w2,i1,d1]
 rw [aG]
 cases e3:x.after.all bG with
 | false=>
  simp only [KP,Ax.loadAt,↓reduceIte,reduceEqDiff,reduceLT,h.a_,k3,e3,i2,d2]
  exact rfl
 | true=>
 simp only [KP,Ax.loadAt,↓reduceIte,reduceEqDiff,reduceLT,Int.reduceAdd,h.a_,k3,e3,w3,i2,d2]
 rw [aG]
 have e4:x.steps.all KX = !(x.steps.any fun s=>!KX s):=by rw [<- iy,Bool.not_not]
 rw [e4]
 simp only [KP,Ax.loadAt,↓reduceIte,reduceEqDiff,reduceLT,reduceCtorEq,h.fI,h.bK,k4,d3]
 exact rfl
theorem Qq (h:bH E) {v:V} {x:aC} (hv:HN v x) (hs:Small x):KC E 175 [v] Z (.bool (kH x)) Z:=dK fun _=>Rs h hv hs
end
end
section
section
variable {E:Env} {Z:Sg} {K:V -> Sg -> Prop}
theorem Oy (h:bH E) {a:V} {l:List bC} (ha:LS aO 9 Z a l) (hsm:l.length <= 4294967296):aB E 209 [a] Z K = K (.bool (kJ l)) Z:=by
 refine aB.of ?_
 obtain ⟨a',ea,ia⟩:=jU h ha
 rw [aH h.XP h.Vf h.YF h.WT (args':=[a']) (by simp only [aW,ea]),aX (by kernel_rfl)]
 have la:=bP h ia
 simp only [aA,Tryz.f209,KP,↓reduceIte,reduceLT,reduceCtorEq,la]
 refine aV (fun i F Y=>Y = [] /\ F.get 0 = a' /\ F.get 5 = a' /\ F.get 6 = .int .i64 (l.length:Int) /\ F.get 7 = .int .i64 (i:Int) /\ ∀ (j:Nat) (y:bC),j < i -> l[j]? = some y -> y ∉ l.take j) l.length ?_ ?_ l.length 0 _ _ (by omega) ⟨rfl,(fE (by simp +decide only [GS,Z5]) (fun j y hj=>by omega))⟩
 ·rintro i F Y hi ⟨rfl,g0,g5,g6,g7,hp⟩ next
  obtain ⟨x,hx⟩:∃ x,l[i]? = some x:=⟨_,AT hi⟩
  obtain ⟨g,e1⟩:=gI h ia hx
  obtain ⟨w,hw,iw⟩:=vS h ia (b:=i) (by omega)
  have hlt:=dZ hi
  have hadd:=bY i (by omega)
  have kc:=fun (Y:Sg)=>Ck (Z:=Y) h (s:=x) (iw.ls Y 9) (by rw [ZW]; omega)
  rw [aG]
  by_cases hm:x ∈ l.take i
  ·have hs:=BY hm
   simp only [KP,Ax.loadAt,↓reduceIte,reduceEqDiff,reduceLT,reduceCtorEq,h.dG,g0,g5,g6,g7,hlt,e1,hw,kc,hs]
   rw [Bu hx hm]
   exact rfl
  ·have hs:=AS hm
   simp only [KP,Ax.loadAt,↓reduceIte,reduceEqDiff,reduceLT,reduceCtorEq,h.dG,g0,g5,g6,g7,hlt,e1,hw,kc,hs,hadd]
   refine next _ _ ⟨rfl,(fE (by simp +decide only [GS,g0,g5,g6,Z5]) (fun j y hj hy=>?_))⟩
   rcases ZZ j i with g | g
   ·exact hp j y g hy
   ·obtain rfl:j = i:=by omega
    rw [hx] at hy; cases hy; exact hm
 ·rintro F Y ⟨rfl,g0,g5,g6,g7,hp⟩
  have hlt:=d_ (ZT l.length)
  rw [aG]
  simp only [KP,↓reduceIte,reduceLT,g6,g7,hlt]
  rw [yU fun j y hy=>hp j y (AI.1 hy).1 hy]
  exact rfl
theorem Cj (h:bH E) {a:V} {l:List bC} (ha:LS aO 9 Z a l) (hsm:l.length <= 4294967296):KC E 209 [a] Z (.bool (kJ l)) Z:=dK fun _=>Oy h ha hsm
theorem CE (h:bH E):nY E 24 true .aD .aD = some true:=by unfold nY; rw [h.a_]
theorem CD (h:bH E) {g:Bool} {rs:List (List V)} {f:Bool}:nY E 24 true (.bS g rs f) .aD = some false:=by unfold nY; rw [h.a_]
theorem sK (h:bH E) {a:V} {l:List bC} (ia:IS aO a l) (hl:l.length <= 1000):aB E 85 [a] Z fun v σ'=>bA aO 9 σ' v l /\ Kp Z σ' /\ ∀ b,aQ v = some b -> Z.length <= b:=by
 rw [dF h.hs85 h.sp85 h.fn85 h.md85,aX (by kernel_rfl)]
 rcases ia with ⟨rfl,rfl⟩ | ⟨g,rs,full,rfl,ha⟩
 ·simp only [aA,Tryz.f85,KP,↓reduceIte,reduceLT,reduceCtorEq,CE h]
  exact ⟨.inl ⟨rfl,rfl⟩,fun _ _ h=>h,fun b hb=>by cases hb⟩
 ·obtain ⟨rs',e,ha'⟩:=kR (L:=aO) (x:=.bS g rs full) (l:=l) (.inr ⟨g,rs,full,rfl,ha⟩) (Z ++ [O.cells 9 [] true])
  obtain ⟨w',τ',h1,h2,h3,h4,h5⟩:=gT (ats:=#[24,24]) (Z:=Z ++ [O.cells 9 [] true]) (w:=.sl Z.length 0 0 none) (l:=[]) (L:=aO) h.a_ rfl h.dG rfl (by decide) (jL h) rfl (.inr ⟨Z.length,[],true,rfl,aK,.nil⟩) e ha' (dD (b:=1000) (by decide) (by simp only [ZN]; omega))
  rw [af] at h2
  simp only [aA,Tryz.f85,KP,↓reduceIte,reduceEqDiff,reduceLT,reduceLeDiff,reduceCtorEq,h.dG,h.a_,CD h,h1,Ax.fill,iA,dz]
  refine ⟨h2,fun c o hc=>h3 _ _ (aN hc) fun e=>?_,fun b hb=>?_⟩
  ·cases e
   exact absurd (AI.1 hc).1 (ZT _)
  ·rcases h5 b hb with g | g
   ·cases g; exact Z1 _
   ·simp only [Z7,Z0,ZN] at g; omega
theorem Gb {Z:Sg} {ty:Nat -> Option Ty} {g:Bool} {b n t m:Nat} {cs:List V} {ex:Bool} {i:Ty} (hb:Z[b]? = some (.cells t cs ex)) (hty:ty t = some i) (hlen:n * i.size <= cs.length)
  (hi:∀ c ∈ cs.take (n * i.size),Ax.bD c = true /\ cH g c = true):∃ full,bO Z ty g (m + 2) (.sl b 0 n none) = some (.bS g (rows i.size n (cs.take (n * i.size))) full):=by
 have hm:aW (fun v=>match bO Z ty g (m + 1) v with
   | some v=>if cH g v then some v else Ax.no "snap: borrowed"
   | none=>none) ((cs.drop 0).take (n * i.size)) = some (cs.take (n * i.size)):=by
  rw [cn]
  refine gK fun x hx=>?_
  rw [iW (hi x hx).1]
  simp only [(hi x hx).2,ZP]
 refine ⟨ex && decide (0 < i.size) && (0 + n * i.size == cs.length),?_⟩
 rw [bO]
 simp only [hb,hty]
 rw [ZO (by omega)]
 exact ZL (fun o=>match o with
  | some l=>some (V.bS g (rows i.size n l) (ex && decide (0 < i.size) && (0 + n * i.size == cs.length)))
  | none=>none) hm
theorem K0 (h:bH E) {Z:Sg} {w:V} {l:List bC} {m:Nat} (ow:bA aO 9 Z w l):∃ w',bO Z E.ty true (m + 2) w = some w' /\ IS aO w' l:=by
 rcases ow with ⟨rfl,rfl⟩ | ⟨b,rs,ex,rfl,hb,ha⟩
 ·exact ⟨.aD,rfl,.inl ⟨rfl,rfl⟩⟩
 ·have hfl:=Lay.flat ha
  have hfl:rs.flatten.length = l.length * 1:=hfl
  have htk:rs.flatten.take (l.length * 1) = rs.flatten:=Z6 (by omega)
  obtain ⟨full,e⟩:=Gb (g:=true) (n:=l.length) (m:=m) hb h.dG (show l.length * 1 <= _ by omega) (fun c hcm=>by
   rw [show rs.flatten.take (l.length * 1) = rs.flatten from htk] at hcm
   obtain ⟨r,hr,hcr⟩:=List.mem_flatten.1 hcm
   obtain ⟨x,-,hp⟩:=ha.mem hr
   have:=aO.im r x hp c hcr
   exact ⟨this,cA this⟩)
  refine ⟨_,e,.inr ⟨true,rs,full,?_,ha⟩⟩
  show V.bS true (rows 1 l.length (rs.flatten.take (l.length * 1))) full = _
  rw [htk,<- ha.len]
  exact ZL (fun z=>V.bS true z full) (lN (sz:=1) rs (Lay.lens ha))
theorem vR {Z:Sg} {f k t:Nat} {cs cs':List V} {ex:Bool} (hb:Z[k]? = some (.cells t cs ex)) (hm:aW (fun v=>match bO Z E.ty true 11 v with
   | some v=>if cH true v then some v else Ax.no "snap: borrowed"
   | none=>none) cs = some cs'):aS Z E.ty true (.fn f [] [.ref k 0]) = some (.fn f [] [.cW true cs']):=by
 have e:bO Z E.ty true 12 (.ref k 0) = some (.cW true cs'):=by
  rw [bO]
  simp only [hb,cn]
  exact ZL (fun o=>match o with
   | some l=>some (V.cW true l)
   | none=>none) hm
 have e1:aS.one Z E.ty true (.ref k 0) = some (.cW true cs'):=by
  unfold aS.one
  rw [show dJ = 12 from rfl,e]
  rfl
 simp only [aS,aW,e1]
theorem BJ (h:bH E) {Z:Sg} {w:V} {l:List bC} {f k t:Nat} {ex:Bool} (hb:Z[k]? = some (.cells t [w] ex)) (ow:bA aO 9 Z w l):∃ w',aS Z E.ty true (.fn f [] [.ref k 0]) = some (.fn f [] [.cW true [w']]) /\ IS aO w' l:=by
 obtain ⟨w',e,iw⟩:=K0 (m:=9) h ow
 refine ⟨w',vR hb ?_,iw⟩
 simp only [aW,e,cA iw.bD,ZP]
theorem Io {Z:Sg} {f k t:Nat} {cs:List V} {ex:Bool} (hb:Z[k]? = some (.cells t cs ex)) (hc:∀ c ∈ cs,Ax.bD c = true):aS Z E.ty true (.fn f [] [.ref k 0]) = some (.fn f [] [.cW true cs]):=
 vR hb (gK fun x hx=>by rw [show 11 = 10 + 1 from rfl,iW (hc x hx)]; simp only [cA (hc x hx),ZP])
theorem HB (h:bH E) {w:V} {l:List bC} {y:bC} {g:Bool} (iw:IS aO w l) (hsm:l.length <= 4294967296):aB E 210 [.str y,.cW g [w]] [] K = K (.bool (!decide (y ∈ l))) []:=by
 refine aB.of ?_
 have hi:Ax.bD (.cW g [w]) = true:=rfl
 have ew:=cN (Z:=[]) (ty:=E.ty) hi (cA hi)
 rw [aH h.XO h.Ve h.YE h.WS (args':=[.str y,.cW g [w]]) (by simp only [aW,dB,ew]),aX (by kernel_rfl)]
 have kc:=fun (Y:Sg)=>Ck (Z:=Y) h (s:=y) (iw.ls Y 9) hsm
 simp only [aA,Tryz.f210,KP,Ax.loadAt,↓reduceIte,reduceEqDiff,reduceLT,reduceAdd,reduceCtorEq,h.a_,kc]
 exact rfl
theorem OD (h:bH E) {a b c d:V} {l:List bC} {n y:bC} {g:Bool} (ia:IS aO a l) (hb:Ax.bD b = true) (hc:Ax.bD c = true) (hd:Ax.bD d = true) (hsm:l.length <= 4294967296):aB E 211 [.str y,.cW g [.str n,a,b,c,d]] [] K = K (.bool (decide (y ∈ l))) []:=by
 refine aB.of ?_
 have hi:Ax.bD (.cW g [.str n,a,b,c,d]) = true:=rfl
 have ew:=cN (Z:=[]) (ty:=E.ty) hi (cA hi)
 rw [aH h.XN h.Vd h.YD h.WR (args':=[.str y,.cW g [.str n,a,b,c,d]]) (by simp only [aW,dB,ew]),aX (by kernel_rfl)]
 have kc:=fun (Y:Sg)=>Ck (Z:=Y) h (s:=y) (ia.ls Y 9) hsm
 simp only [aA,Tryz.f211,KP,Ax.loadAt,↓reduceIte,reduceEqDiff,reduceLT,reduceAdd,reduceCtorEq,h.a_,h.bK,kc]
 exact rfl
end
end
section
section
variable {E:Env} {Z:Sg} {K:V -> Sg -> Prop}
theorem bA.set {Z:Sg} {w:V} {l:List bC} {k:Nat} {y:O} (ow:bA aO 9 Z w l) (hk:aQ w ≠ some k):bA aO 9 (Z.set k y) w l:=ow.keep fun c o hc ho=>by
 rw [No (fun e=>hk (by rw [e]; exact hc))]
 exact ho
theorem Nw (h:bH E) {x:aC} {a b c d:V} (ia:IS aO a x.ins) (ib:IS aO b x.outs) (id:IS eZ d x.steps) (hs:Small x) {kb:Nat} {Y:Sg} {w:V} (b0:Y[0]? = some (O.cells 46 [.str x.name,a,b,c,d] true)) (k0:Y[kb]? = some (.cells 24 [w] true)) (ow:bA aO 9 Y w x.ins) (F:FT) (g1:F.get 1 = .ref 0 0) (g3:F.get 3 = .ref kb 0) (g4:F.get 4 = .fn 210 [] [.ref kb 0])
  (hk:∀ σ',K (.bool (iB x.ins x.steps && x.outs.all fun o=>decide (o ∈ x.ins ++ x.steps.map Step.out))) σ'):R E (cutAt [1,1,1,1,1] (aA Tryz.f176).code) [] ⟨63,F⟩ Y (mE E (aA Tryz.f176).results K):=by
 have l1:=hs.ins
 have l2:=hs.outs
 have l4:=hs.steps
 have ld:=lF h id
 simp only [aA,Tryz.f176,KP,Ax.loadAt,↓reduceIte,reduceLT,reduceCtorEq,h.fI,h.bK,cutAt,g1,b0,ld]
 refine aV (fun i F Y=>F.get 1 = .ref 0 0 /\ F.get 3 = .ref kb 0 /\ F.get 4 = .fn 210 [] [.ref kb 0] /\ F.get 36 = d /\ F.get 37 = .int .i64 (x.steps.length:Int) /\ F.get 38 = .int .i64 (i:Int) /\ Y[0]? = some (O.cells 46 [.str x.name,a,b,c,d] true) /\ ∃ w,Y[kb]? = some (.cells 24 [w] true) /\ bA aO 9 Y w (x.ins ++ (x.steps.take i).map Step.out) /\ iB x.ins x.steps = iB (x.ins ++ (x.steps.take i).map Step.out) (x.steps.drop i)) x.steps.length ?_ ?_ x.steps.length 0 _ _ (by omega) (yJ (by simp +decide only [GS,g1,g3,g4,Z5]) ⟨b0,w,k0,by simpa using ow,by simp⟩)
 ·rintro i F Y hi ⟨g1,g3,g4,g36,g37,g38,b0,w,k0,ow,hst⟩ next
  obtain ⟨s,hsi⟩:∃ y,x.steps[i]? = some y:=⟨_,AT hi⟩
  obtain ⟨g,p1,p2,e1,i1,i2⟩:=uS h id hsi
  have a8:=hs.args s (Z2 hsi)
  have o1:=aM i1.bD
  have o2:=aM i2.bD
  have hlt:=dZ hi
  have hadd:=bY i (by omega)
  have hdrop:x.steps.drop i = s :: x.steps.drop (i + 1):=by
   obtain ⟨hj,rfl⟩:=AI.1 hsi
   exact List.drop_eq_getElem_cons hj
  have htake:x.ins ++ (x.steps.take (i + 1)).map Step.out = x.ins ++ (x.steps.take i).map Step.out ++ [s.out]:=by
   rw [bh,hsi]; simp
  have hkl:(x.ins ++ (x.steps.take i).map Step.out).length <= 100:=by
   rw [Z7,ZS,ZW]; omega
  rw [hdrop,iB] at hst
  rw [htake] at next
  generalize x.ins ++ (x.steps.take i).map Step.out = kn at *
  rw [hst] at hk
  have b1:=aN (x:=O.cells 113 [.str s.out,.int .i64 s.op,p1,p2,.int .i64 s.n] true) b0
  have k1:=aN (x:=O.cells 113 [.str s.out,.int .i64 s.op,p1,p2,.int .i64 s.n] true) k0
  have s1:(Y ++ [O.cells 113 [.str s.out,.int .i64 s.op,p1,p2,.int .i64 s.n] true])[Y.length]? = some (O.cells 113 [.str s.out,.int .i64 s.op,p1,p2,.int .i64 s.n] true):=aK
  have ow1:=ow.app [O.cells 113 [.str s.out,.int .i64 s.op,p1,p2,.int .i64 s.n] true]
  rw [aG]
  simp only [KP,Ax.loadAt,Ax.storeAt,↓reduceIte,reduceEqDiff,reduceLT,reduceAdd,h.a_,h.bN,g3,g36,g37,g38,hlt,e1,o1,o2,aK,bV]
  generalize Y ++ [O.cells 113 [.str s.out,.int .i64 s.op,p1,p2,.int .i64 s.n] true] = τ1 at *
  generalize Y.length = y at *
  have kc:=Ck (Z:=τ1) h (s:=s.out) ow1.ls (by omega)
  obtain ⟨w',es,iw⟩:=BJ (f:=210) h k1 ow1
  have kf:=dK (fun K=>qY (Z:=τ1) (K:=K) (k:=210) (caps:=[.cW true [w']]) (P:=fun y=>!decide (y ∈ kn)) h (i1.ls τ1 9) (by omega) (fun c hc=>by cases hc with | head=>rfl | tail _ hc=>cases hc) (fun y v hy hv=>by
   subst hv
   show aB E 210 [.str y,.cW true [w']] [] _
   rw [HB h iw (by omega)]; exact ⟨rfl,rfl⟩) es)
  by_cases m1:s.out ∈ kn
  ·have q1:=BY m1
   rw [q1] at hk
   simp only [KP,Ax.loadAt,↓reduceIte,reduceEqDiff,reduceLT,reduceCtorEq,h.dG,h.bN,k1,s1,kc,q1]
   exact hk _
  have q1:=AS m1
  cases m2:s.args.any fun y=>!decide (y ∈ kn) with
  | true=>
   rw [show s.args.all (fun a=>decide (a ∈ kn)) = false from by rw [<- da,iy,m2],Bool.and_false,jq,jq] at hk
   simp only [KP,Ax.loadAt,↓reduceIte,reduceEqDiff,reduceLT,reduceCtorEq,h.dG,h.a_,h.bN,g4,k1,s1,kc,kf,q1,m2]
   exact hk _
  | false=>
  rw [q1,show s.args.all (fun a=>decide (a ∈ kn)) = true from by rw [<- Bool.not_eq_false',iy,m2],je,er,er] at hst
  have b2:=aN (x:=O.cells 9 [.str s.out] true) b1
  have k2:=aN (x:=O.cells 9 [.str s.out] true) k1
  obtain ⟨w2,τ2,ha2,ow2,Mn,-,fr2⟩:=gT (ats:=#[24,24]) (m:=[s.out]) (new:=[[.str s.out]]) h.a_ rfl h.dG rfl (by decide) (jL h) rfl (ow1.app [.cells 9 [.str s.out] true]) (mN rfl) (.one rfl) (dD (b:=1000) (by decide) (by simp only [Z0,ZN]; omega))
  have nk:=kX (w:=w) k2 (by decide) (ow1.app [.cells 9 [.str s.out] true])
  have n0:=kX (w:=w) b2 (by decide) (ow1.app [.cells 9 [.str s.out] true])
  have k3:=Mn _ _ k2 nk
  have b3:=Mn _ _ b2 n0
  have nk2:aQ w2 ≠ some kb:=kX k3 (by decide) ow2
  obtain ⟨c1,c2⟩:=qJ ow2
  have hkb:kb ≠ 0:=fun e=>by
   rw [e,b0] at k0
   cases k0
  have hlen:=(AI.1 k3).1
  simp only [KP,Ax.loadAt,Ax.storeAt,↓reduceIte,reduceEqDiff,reduceLT,reduceLeDiff,reduceMul,reduceCtorEq,h.dG,h.a_,h.bN,g3,g4,g38,k1,s1,kc,kf,q1,m2,kP,ha2,k3,c1,c2,hadd]
  refine next _ _ ⟨?_,?_,?_,?_,?_,?_,?_,w2,?_,?_,?_⟩
  ·exact (by simp +decide only [GS,g1])
  ·exact (by simp +decide only [GS,g3])
  ·exact (by simp +decide only [GS,g4])
  ·exact (by simp +decide only [GS,g36])
  ·exact (by simp +decide only [GS,g37])
  ·exact (by simp +decide only [GS])
  ·rw [No hkb]; exact b3
  ·rw [ZV hlen]
  ·exact bA.set ow2 nk2
  ·exact hst
 ·rintro F Y ⟨g1,g3,g4,g36,g37,g38,b0,w,k0,ow,hst⟩
  rw [Z6 (Z1 _)] at ow hst
  rw [show x.steps.drop x.steps.length = [] from List.drop_length,iB] at hst
  have hkl:(x.ins ++ x.steps.map Step.out).length <= 100:=by
   rw [Z7,ZS]; omega
  generalize x.ins ++ x.steps.map Step.out = kn at *
  obtain ⟨w',es,iw⟩:=BJ (f:=210) h k0 ow
  have kf:=dK (fun K=>qY (Z:=Y) (K:=K) (k:=210) (caps:=[.cW true [w']]) (P:=fun y=>!decide (y ∈ kn)) h (ib.ls Y 9) (by omega) (fun c hc=>by cases hc with | head=>rfl | tail _ hc=>cases hc) (fun y v hy hv=>by
   subst hv
   show aB E 210 [.str y,.cW true [w']] [] _
   rw [HB h iw (by omega)]; exact ⟨rfl,rfl⟩) es)
  have hlt:=d_ (ZT x.steps.length)
  rw [hst,er] at hk
  have e:(x.outs.all fun o=>decide (o ∈ kn)) = !(x.outs.any fun y=>!decide (y ∈ kn)):=by rw [<- iy,Bool.not_not]
  rw [e] at hk
  rw [aG]
  simp only [KP,Ax.loadAt,↓reduceIte,reduceEqDiff,reduceLT,reduceCtorEq,h.a_,h.bK,g1,g4,g37,g38,hlt,b0,kf]
  exact hk _
theorem Rq (h:bH E) {v:V} {x:aC} (hv:HN v x) (hs:Small x):aB E 176 [v] Z K = K (.bool (fC x)) Z:=by
 refine aB.of ?_
 have ev:=hv.snap (E:=E) Z
 obtain ⟨a,b,c,d,rfl,ia,ib,ic,id⟩:=hv
 have o1:=aM ia.bD
 have o2:=aM ib.bD
 have o3:=aM ic.bD
 have o4:=aM id.bD
 have l1:=hs.ins
 have l2:=hs.outs
 have l3:=hs.after
 rw [aH h.XZ h.Vp h.YO h.W6 (args':=[.agg [.str x.name,a,b,c,d]]) (by simp only [aW,ev]),aX (by kernel_rfl)]
 have k1:=fun (Y:Sg)=>Cj (Z:=Y) h (ia.ls Y 9) (by omega)
 have k2:=fun (Y:Sg)=>Cj (Z:=Y) h (ib.ls Y 9) (by omega)
 have k3:=fun (Y:Sg)=>Cj (Z:=Y) h (ic.ls Y 9) (by omega)
 have kc:=fun (Y:Sg)=>Ck (Z:=Y) h (s:=x.name) (ic.ls Y 9) (by omega)
 have rest:=fun (hn:(iB x.ins x.steps && x.outs.all fun o=>decide (o ∈ x.ins ++ x.steps.map Step.out)) = fC x) kb Y w F b0 k0 ow g1 g3 g4=>Nw (K:=fun v σ1=>match cK σ1 E.ty false v with
   | some v=>v = .bool (fC x)
   | none=>False) (c:=c) h ia ib id hs (kb:=kb) (Y:=Y) (w:=w) b0 k0 ow F g1 g3 g4 fun _=>by rw [hn]; exact rfl
 generalize hC:cutAt [1,1,1,1,1] (aA Tryz.f176).code = C at rest
 cases e0:kJ x.ins with
 | true=>
  simp only [aA,Tryz.f176,KP,Ax.loadAt,↓reduceIte,reduceEqDiff,reduceLT,reduceAdd,reduceCtorEq,h.a_,h.bK,o1,o2,o3,o4,k1,e0]
  show V.bool false = V.bool (fC x)
  unfold fC
  simp [e0]
 | false=>
 cases e1:kJ x.outs with
 | true=>
  simp only [aA,Tryz.f176,KP,Ax.loadAt,↓reduceIte,reduceEqDiff,reduceLT,reduceAdd,reduceCtorEq,h.a_,h.bK,o1,o2,o3,o4,k1,k2,e0,e1]
  show V.bool false = V.bool (fC x)
  unfold fC
  simp [e0,e1]
 | false=>
 cases e2:kJ x.after with
 | true=>
  simp only [aA,Tryz.f176,KP,Ax.loadAt,↓reduceIte,reduceEqDiff,reduceLT,reduceAdd,reduceCtorEq,h.a_,h.bK,o1,o2,o3,o4,k1,k2,k3,e0,e1,e2]
  show V.bool false = V.bool (fC x)
  unfold fC
  simp [e0,e1,e2]
 | false=>
 cases e3:decide (x.name ∈ x.after) with
 | true=>
  simp only [aA,Tryz.f176,KP,Ax.loadAt,↓reduceIte,reduceEqDiff,reduceLT,reduceAdd,reduceCtorEq,h.dG,h.a_,h.bK,o1,o2,o3,o4,k1,k2,k3,kc,e0,e1,e2,e3]
  show V.bool false = V.bool (fC x)
  unfold fC
  rw [e0,e1,e2,e3]
  rfl
 | false=>
 rw [show (aA Tryz.f176).code = .seq (cutAt [0] (aA Tryz.f176).code) (.seq (cutAt [1,0] (aA Tryz.f176).code) (.seq (cutAt [1,1,0] (aA Tryz.f176).code) (.seq (cutAt [1,1,1,0] (aA Tryz.f176).code) (.seq (cutAt [1,1,1,1,0] (aA Tryz.f176).code) C)))) from by rw [<- hC]; rfl]
 simp only [aA,Tryz.f176,KP,Ax.loadAt,↓reduceIte,reduceEqDiff,reduceLT,reduceAdd,reduceCtorEq,h.dG,h.a_,h.bK,cutAt,o1,o2,o3,o4,k1,k2,k3,kc,e0,e1,e2,e3]
 refine aP (sK h ia (by omega)) ?_
 rintro w Y ⟨ow,kp,-⟩
 have b0:Y[0]? = some (O.cells 46 [.str x.name,a,b,c,d] true):=kp 0 _ rfl
 obtain ⟨c1,c2⟩:=qJ ow
 have b1:=aN (x:=O.cells 24 [w] true) b0
 have kk:(Y ++ [O.cells 24 [w] true])[Y.length]? = some (O.cells 24 [w] true):=aK
 have es:=Io (E:=E) (f:=211) b1 (fun y hy=>by
  simp only [By,ZY,bt] at hy
  rcases hy with rfl | rfl | rfl | rfl | rfl
  ·rfl
  ·exact ia.bD
  ·exact ib.bD
  ·exact ic.bD
  ·exact id.bD)
 have kf:=dK (fun K=>qY (Z:=Y ++ [O.cells 24 [w] true]) (K:=K) (k:=211) (caps:=[.cW true [.str x.name,a,b,c,d]]) (P:=fun y=>decide (y ∈ x.ins)) h (ib.ls _ 9) (by omega) (fun c hc=>by cases hc with | head=>rfl | tail _ hc=>cases hc) (fun y v hy hv=>by
  subst hv
  show aB E 211 [.str y,.cW true [.str x.name,a,b,c,d]] [] _
  rw [OD h ia ib.bD ic.bD id.bD (by omega)]; exact ⟨rfl,rfl⟩) es)
 have eo:(x.outs.all fun o=>!decide (o ∈ x.ins)) = !(x.outs.any fun y=>decide (y ∈ x.ins)):=by rw [List.not_any_eq_all_not]
 cases e4:x.outs.any fun y=>decide (y ∈ x.ins) with
 | true=>
  simp only [KP,Ax.loadAt,Ax.storeAt,↓reduceIte,reduceEqDiff,reduceLT,reduceCtorEq,h.a_,h.bK,b1,kf,e4,c1,c2,aK,bV]
  show V.bool false = V.bool (fC x)
  unfold fC
  rw [eo,e0,e1,e2,e3,e4]
  rfl
 | false=>
 simp only [KP,Ax.loadAt,Ax.storeAt,↓reduceIte,reduceEqDiff,reduceLT,reduceCtorEq,h.a_,h.bK,b1,kf,e4,c1,c2,aK,bV]
 refine rest ?_ Y.length _ w _ b1 kk (ow.app _) ?_ ?_ ?_
 ·unfold fC
  rw [eo,e0,e1,e2,e3,e4]
  simp
 ·exact (by simp +decide only [GS])
 ·exact (by simp +decide only [GS])
 ·exact (by simp +decide only [GS])
theorem Qm (h:bH E) {v:V} {x:aC} (hv:HN v x) (hs:Small x):KC E 176 [v] Z (.bool (fC x)) Z:=dK fun _=>Rq h hv hs
end
end
section
section
variable {E:Env} {Z:Sg} {K:V -> Sg -> Prop}
theorem Ru (h:bH E) {v:V} {x:aC} (hv:HN v x) (hs:Small x):aB E 143 [v] Z K = K (.int .i64 (bB x)) Z:=by
 refine aB.of ?_
 have ev:=hv.snap (E:=E) Z
 obtain ⟨a,b,c,d,rfl,ia,ib,ic,id⟩:=hv
 have o1:=aM ia.bD
 have o2:=aM ib.bD
 have o3:=aM ic.bD
 have o4:=aM id.bD
 have la:=bP h ia
 have lb:=bP h ib
 have lc:=bP h ic
 have ld:=lF h id
 rw [aH h.X9 h.Vy h.YW h.Xd (args':=[.agg [.str x.name,a,b,c,d]]) (by simp only [aW,ev]),aX (by kernel_rfl)]
 have k1:=fun (Y:Sg)=>Qq (Z:=Y) h (v:=.agg [.str x.name,a,b,c,d]) ⟨a,b,c,d,rfl,ia,ib,ic,id⟩ hs
 have k2:=fun (Y:Sg)=>Qm (Z:=Y) h (v:=.agg [.str x.name,a,b,c,d]) ⟨a,b,c,d,rfl,ia,ib,ic,id⟩ hs
 cases e1:kH x with
 | false=>
  simp only [aA,Tryz.f143,KP,Ax.loadAt,↓reduceIte,reduceEqDiff,reduceLT,reduceAdd,h.bK,o1,o2,o3,o4,k1,e1]
  show V.int .i64 1 = V.int .i64 (bB x)
  rw [show bB x = 1 from by unfold bB; rw [ZO e1]]
 | true=>
 by_cases p0:8 < x.ins.length
 ·have q0:decide ((8:Int) < (x.ins.length:Int)) = true:=BY (by omega)
  simp only [aA,Tryz.f143,KP,Ax.loadAt,↓reduceIte,reduceEqDiff,reduceLT,reduceAdd,reduceCtorEq,h.a_,h.bK,o1,o2,o3,o4,la,k1,e1,q0]
  show V.int .i64 4 = V.int .i64 (bB x)
  rw [show bB x = 4 from by unfold bB; rw [ZM (by rw [e1]; simp)]; rw [ZO (by unfold long; rw [BY p0]; simp)]]
 have q0:decide ((8:Int) < (x.ins.length:Int)) = false:=AS (by omega)
 by_cases p1:4 < x.outs.length
 ·have q1:decide ((4:Int) < (x.outs.length:Int)) = true:=BY (by omega)
  simp only [aA,Tryz.f143,KP,Ax.loadAt,↓reduceIte,reduceEqDiff,reduceLT,reduceAdd,reduceCtorEq,h.a_,h.bK,o1,o2,o3,o4,la,lb,k1,e1,q0,q1]
  show V.int .i64 4 = V.int .i64 (bB x)
  rw [show bB x = 4 from by unfold bB; rw [ZM (by rw [e1]; simp)]; rw [ZO (by unfold long; rw [BY p1]; simp)]]
 have q1:decide ((4:Int) < (x.outs.length:Int)) = false:=AS (by omega)
 by_cases p2:8 < x.after.length
 ·have q2:decide ((8:Int) < (x.after.length:Int)) = true:=BY (by omega)
  simp only [aA,Tryz.f143,KP,Ax.loadAt,↓reduceIte,reduceEqDiff,reduceLT,reduceAdd,reduceCtorEq,h.a_,h.bK,o1,o2,o3,o4,la,lb,lc,k1,e1,q0,q1,q2]
  show V.int .i64 4 = V.int .i64 (bB x)
  rw [show bB x = 4 from by unfold bB; rw [ZM (by rw [e1]; simp)]; rw [ZO (by unfold long; rw [BY p2]; simp)]]
 have q2:decide ((8:Int) < (x.after.length:Int)) = false:=AS (by omega)
 by_cases p3:12 < x.steps.length
 ·have q3:decide ((12:Int) < (x.steps.length:Int)) = true:=BY (by omega)
  simp only [aA,Tryz.f143,KP,Ax.loadAt,↓reduceIte,reduceEqDiff,reduceLT,reduceAdd,reduceCtorEq,h.a_,h.fI,h.bK,o1,o2,o3,o4,la,lb,lc,ld,k1,e1,q0,q1,q2,q3]
  show V.int .i64 4 = V.int .i64 (bB x)
  rw [show bB x = 4 from by unfold bB; rw [ZM (by rw [e1]; simp)]; rw [ZO (by unfold long; rw [BY p3]; simp)]]
 have q3:decide ((12:Int) < (x.steps.length:Int)) = false:=AS (by omega)
 cases e2:fC x with
 | false=>
  simp only [aA,Tryz.f143,KP,Ax.loadAt,↓reduceIte,reduceEqDiff,reduceLT,reduceAdd,reduceCtorEq,h.a_,h.fI,h.bK,o1,o2,o3,o4,la,lb,lc,ld,k1,k2,e1,q0,q1,q2,q3,e2]
  show V.int .i64 2 = V.int .i64 (bB x)
  rw [show bB x = 2 from by unfold bB; rw [ZM (by rw [e1]; simp)]; rw [ZM (by unfold long; rw [AS p0,AS p1,AS p2,AS p3]; simp)]; rw [ZO e2]]
 | true=>
 simp only [aA,Tryz.f143,KP,Ax.loadAt,↓reduceIte,reduceEqDiff,reduceLT,reduceAdd,reduceCtorEq,h.a_,h.fI,h.bK,o1,o2,o3,o4,la,lb,lc,ld,k1,k2,e1,q0,q1,q2,q3,e2]
 show V.int .i64 0 = V.int .i64 (bB x)
 rw [show bB x = 0 from by unfold bB; rw [ZM (by rw [e1]; simp)]; rw [ZM (by unfold long; rw [AS p0,AS p1,AS p2,AS p3]; simp)]; rw [ZM (by rw [e2]; simp)]]
theorem Qv (h:bH E) {v:V} {x:aC} (hv:HN v x) (hs:Small x):KC E 143 [v] Z (.int .i64 (bB x)) Z:=dK fun _=>Ru h hv hs
end
end
section
section
variable {E:Env} {Z:Sg} {K:V -> Sg -> Prop}
def SM (E:Env) (es:List (V × V)) (get:bC -> Option V):Prop:=(∀ e ∈ es,(∃ k,e.1 = .str k) /\ Ax.bD e.2 = true) /\ ∀ k,iG (dQ E 9) (.str k) es = some (get k)
theorem bZ (h:bH E) (a b:bC):dQ E 9 (.str a) (.str b) = some (Ax.seq a b):=by unfold dQ; rw [h.dG]
theorem Ir:SM E [] fun _=>none:=⟨fun _ h=>(by cases h),fun _=>rfl⟩
theorem ER (h:bH E) {v:V} (k:bC) (hv:Ax.bD v = true):∀ {es:List (V × V)} {get:bC -> Option V},SM E es get -> ∃ es',jY (dQ E 9) (.str k) v es = some es' /\ SM E es' fun q=>if q = k then some v else get q
 | [],get,hs=>by
  refine ⟨[(.str k,v)],rfl,fun e he=>?_,fun q=>?_⟩
  ·rw [ae.1 he]
   exact ⟨⟨k,rfl⟩,hv⟩
  ·show _ = some (if q = k then some v else get q)
   have e0:none = get q:=au (hs.2 q)
   rw [iG,bZ h]
   by_cases hq:q = k
   ·rw [iD hq,ZO hq]
   ·rw [gD hq,ZM hq,<- e0]; rfl
 | (k0,v0) :: r,get,hs=>by
  obtain ⟨⟨s0,e0⟩,i0⟩:=hs.1 _ (IN ..)
  dsimp only at e0 i0
  subst e0
  by_cases hk:k = s0
  ·refine ⟨(.str k,v) :: r,by rw [jY,bZ h,iD hk],fun e he=>?_,fun q=>?_⟩
   ·rcases By.1 he with rfl | he
    ·exact ⟨⟨k,rfl⟩,hv⟩
    ·exact hs.1 e (OF _ he)
   ·have:=hs.2 q
    show _ = some (if q = k then some v else get q)
    rw [iG,bZ h] at this ⊢
    by_cases hq:q = k
    ·rw [iD hq,ZO hq]
    ·rw [gD (show q ≠ s0 by rw [<- hk]; exact hq)] at this
     rw [gD hq,ZM hq]
     exact this
  ·have hs':SM E r fun q=>if q = s0 then (match iG (dQ E 9) (.str q) r with | some y=>y | none=>none) else get q:=by
    refine ⟨fun e he=>hs.1 e (OF _ he),fun q=>?_⟩
    have:=hs.2 q
    rw [iG,bZ h] at this
    show _ = some (if q = s0 then (match iG (dQ E 9) (.str q) r with | some y=>y | none=>none) else get q)
    by_cases hq:q = s0
    ·rw [ZO hq]
     have tot:∀ (l:List (V × V)),(∀ e ∈ l,∃ k,e.1 = V.str k) -> ∃ y,iG (dQ E 9) (.str q) l = some y:=by
      intro l
      induction l with
      | nil=>intro _; exact ⟨none,rfl⟩
      | cons e l ih=>
       intro hl
       obtain ⟨k1,e1⟩:=hl _ (IN ..)
       obtain ⟨a,b⟩:=e
       dsimp only at e1
       subst e1
       rw [iG,bZ h]
       by_cases h1:q = k1
       ·rw [iD h1]; exact ⟨_,rfl⟩
       ·rw [gD h1]; exact ih fun e he=>hl e (OF _ he)
     obtain ⟨y,hy⟩:=tot r fun e he=>(hs.1 e (OF _ he)).1
     rw [hy]
    ·rw [ZM hq]
     rw [gD hq] at this
     exact this
   obtain ⟨r',e1,s1⟩:=ER h k hv hs'
   refine ⟨(.str s0,v0) :: r',by rw [jY,bZ h,gD hk]; simp only [e1],fun e he=>?_,fun q=>?_⟩
   ·rcases By.1 he with rfl | he
    ·exact ⟨⟨s0,rfl⟩,i0⟩
    ·exact s1.1 e he
   ·have:=hs.2 q
    show _ = some (if q = k then some v else get q)
    rw [iG,bZ h] at this ⊢
    by_cases hq:q = s0
    ·rw [iD hq] at this ⊢
     rw [ZM (show q ≠ k by rw [hq]; exact gr hk)]
     exact this
    ·rw [gD hq]
     have h2:=s1.2 q
     dsimp only at h2
     rw [ZM hq] at h2
     exact h2
def SB (E:Env) (es:List (V × V)) (p:bC -> Bool):Prop:=SM E es fun k=>if p k = true then some (.bool true) else none
theorem M5:SB E [] fun _=>false:=Ir
theorem Te (h:bH E) {es:List (V × V)} {p:bC -> Bool} (hs:SB E es p) (k:bC):∃ es',jY (dQ E 9) (.str k) (.bool true) es = some es' /\ SB E es' fun q=>p q || decide (q = k):=by
 obtain ⟨es',h1,h2⟩:=ER h (v:=.bool true) k rfl hs
 refine ⟨es',h1,h2.1,fun q=>(h2.2 q).trans ?_⟩
 show some (if q = k then some (V.bool true) else if p q = true then some (V.bool true) else none) = some (if (p q || decide (q = k)) = true then some (V.bool true) else none)
 by_cases hq:q = k
 ·rw [ZO hq,BY hq,Bool.or_true,ZO rfl]
 ·rw [ZM hq,AS hq,Bool.or_false]
theorem SB.congr {es:List (V × V)} {p q:bC -> Bool} (hs:SB E es p) (e:∀ k,p k = q k):SB E es q:=by
 rwa [show p = q from funext e] at hs
theorem E7 (h:bH E) {Z:Sg} {x:V} {es:List (V × V)} {p:bC -> Bool} (hx:entriesOf Z x = some es) (hs:SB E es p) (k:bC):lookup E Z 103 x (.str k) false = some (.bool (p k)):=by
 have hk:dX E 9 (.str k) = true:=by unfold dX; rw [h.dG]
 unfold Ax.lookup
 simp only [h.sP,h.EJ,hk,hx,hs.2 k,aq,Z4,ZK]
 cases p k <;> rfl
theorem Mu (h:bH E) {Z:Sg} {b:Nat} {es:List (V × V)} {p:bC -> Bool} (hb:Z[b]? = some (.map es)) (hs:SB E es p) (k:bC):∃ es',mapUpdate E Z 103 (.mp b) (.str k) (.bool true) = some (Z.set b (.map es')) /\ SB E es' fun q=>p q || decide (q = k):=by
 obtain ⟨es',h1,h2⟩:=Te h hs k
 have hk:dX E 9 (.str k) = true:=by unfold dX; rw [h.dG]
 refine ⟨es',?_,h2⟩
 unfold Ax.mapUpdate
 simp only [h.sP,hk,hb,h1,eT,V.aZ,aq,ey,Z4,ZK,ZX]
theorem K1 (h:bH E) {Z:Sg} {b m:Nat} {es:List (V × V)} {get:bC -> Option V} (hb:Z[b]? = some (.map es)) (hs:SM E es get):bO Z E.ty true (m + 2) (.mp b) = some (.imp true es):=by
 rw [bO]
 simp only [hb]
 rw [gK fun e he=>?_]
 obtain ⟨⟨k,e1⟩,e2⟩:=hs.1 e he
 obtain ⟨a,v⟩:=e
 dsimp only at e1 e2
 subst e1
 have e3:bO Z E.ty true (m + 1) v = some v:=iW e2
 have e4:=cA e2
 have hpc:(V.str k).cells.all Ax.plainCell = true:=rfl
 cases v <;> first
  | (simp only [hpc,e3,e4,ZP]; done)
  | cases e2
theorem Dz (h:bH E) {Z:Sg} {f k b t:Nat} {ex:Bool} {es:List (V × V)} {get:bC -> Option V} (hk:Z[k]? = some (.cells t [.mp b] ex)) (hb:Z[b]? = some (.map es)) (hs:SM E es get):aS Z E.ty true (.fn f [] [.ref k 0]) = some (.fn f [] [.cW true [.imp true es]]):=by
 refine vR hk ?_
 simp only [aW,K1 (m:=9) h hb hs,show cH true (V.imp true es) = true from rfl,ZP]
theorem OC (h:bH E) {es:List (V × V)} {p:bC -> Bool} {y:bC} {g g2:Bool} (hs:SB E es p):aB E 152 [.str y,.cW g [.imp g2 es]] [] K = K (.bool (p y)) []:=by
 refine aB.of ?_
 have hi:Ax.bD (.cW g [.imp g2 es]) = true:=rfl
 have ew:=cN (Z:=[]) (ty:=E.ty) hi (cA hi)
 rw [aH h.X5 h.Vu h.YS h.W_ (args':=[.str y,.cW g [.imp g2 es]]) (by simp only [aW,dB,ew]),aX (by kernel_rfl)]
 have hl:=fun Z=>E7 (Z:=Z) (x:=.imp g2 es) h rfl hs y
 simp only [aA,Tryz.f152,KP,Ax.loadAt,↓reduceIte,reduceEqDiff,reduceLT,reduceAdd,reduceCtorEq,h.sP,hl]
 exact rfl
theorem OB (h:bH E) {es:List (V × V)} {p:bC -> Bool} {y:bC} {g g2:Bool} (hs:SB E es p):aB E 153 [.str y,.cW g [.imp g2 es]] [] K = K (.bool (!p y)) []:=by
 refine aB.of ?_
 have hi:Ax.bD (.cW g [.imp g2 es]) = true:=rfl
 have ew:=cN (Z:=[]) (ty:=E.ty) hi (cA hi)
 rw [aH h.X4 h.Vt h.YR h.W9 (args':=[.str y,.cW g [.imp g2 es]]) (by simp only [aW,dB,ew]),aX (by kernel_rfl)]
 have hl:=fun Z=>E7 (Z:=Z) (x:=.imp g2 es) h rfl hs y
 simp only [aA,Tryz.f153,KP,Ax.loadAt,↓reduceIte,reduceEqDiff,reduceLT,reduceAdd,reduceCtorEq,h.sP,hl]
 exact rfl
end
end
section
section
variable {E:Env} {Z:Sg} {K:V -> Sg -> Prop}
structure nK (E:Env) (Y:Sg) (kr ko mr mo:Nat) (p1 p2:bC -> Bool):Prop where
 b1:Y[kr]? = some (.cells 103 [.mp mr] true)
 b2:Y[ko]? = some (.cells 103 [.mp mo] true)
 m1:∃ es,Y[mr]? = some (.map es) /\ SB E es p1
 m2:∃ es,Y[mo]? = some (.map es) /\ SB E es p2
 ne:mr ≠ mo
theorem nK.app {Y:Sg} {kr ko mr mo:Nat} {p1 p2:bC -> Bool} (h:nK E Y kr ko mr mo p1 p2) (y:O):nK E (Y ++ [y]) kr ko mr mo p1 p2:=by
 obtain ⟨e1,h1,s1⟩:=h.m1
 obtain ⟨e2,h2,s2⟩:=h.m2
 exact ⟨aN h.b1,aN h.b2,⟨e1,aN h1,s1⟩,⟨e2,aN h2,s2⟩,h.ne⟩
theorem pN {Y:Sg} {i j:Nat} {x y:O} (h1:Y[i]? = some x) (h2:Y[j]? = some y) (h:x ≠ y):i ≠ j:=fun e=>h (by rw [e,h2] at h1; exact (au h1).symm)
theorem nK.Tj {Y:Sg} {kr ko mr mo:Nat} {p1 p2 q1:bC -> Bool} {es:List (V × V)} (h:nK E Y kr ko mr mo p1 p2) (hs:SB E es q1):nK E (Y.set mr (.map es)) kr ko mr mo q1 p2:=by
 obtain ⟨e1,h1,s1⟩:=h.m1
 obtain ⟨e2,h2,s2⟩:=h.m2
 have n1:=pN h1 h.b1 (by intro e; cases e)
 have n2:=pN h1 h.b2 (by intro e; cases e)
 exact ⟨by rw [No n1]; exact h.b1,by rw [No n2]; exact h.b2,⟨es,by rw [ZV (AI.1 h1).1],hs⟩,⟨e2,by rw [No h.ne]; exact h2,s2⟩,h.ne⟩
theorem nK.put2 {Y:Sg} {kr ko mr mo:Nat} {p1 p2 q2:bC -> Bool} {es:List (V × V)} (h:nK E Y kr ko mr mo p1 p2) (hs:SB E es q2):nK E (Y.set mo (.map es)) kr ko mr mo p1 q2:=by
 obtain ⟨e1,h1,s1⟩:=h.m1
 obtain ⟨e2,h2,s2⟩:=h.m2
 have n1:=pN h2 h.b1 (by intro e; cases e)
 have n2:=pN h2 h.b2 (by intro e; cases e)
 exact ⟨by rw [No n1]; exact h.b1,by rw [No n2]; exact h.b2,⟨e1,by rw [No (gr h.ne)]; exact h1,s1⟩,⟨es,by rw [ZV (AI.1 h2).1],hs⟩,h.ne⟩
def iF (rs:List aC) (k:bC):Bool:=rs.any fun q=>decide (q.name = k)
def vF (rs:List aC) (k:bC):Bool:=rs.any fun q=>decide (k ∈ q.outs)
theorem tH {rs:List aC} {n:bC}:decide (fT rs n = none) = !iF rs n:=by
 unfold fT iF
 rw [<- cB]
 cases bQ (fun r=>decide (r.name = n)) rs <;> rfl
theorem CN {rs:List aC} {i:Nat} {r:aC} (hr:rs[i]? = some r):n_ rs i = (iF (rs.take i) r.name || r.outs.any (vF (rs.take i))):=by
 unfold n_ iF vF
 rw [hr,b8]
 simp only [bp,bz,IT]
 constructor
 ·rintro ⟨q,hq,e | ⟨x,hx,e⟩⟩
  ·exact .inl ⟨q,hq,e⟩
  ·exact .inr ⟨x,hx,q,hq,e⟩
 ·rintro (⟨q,hq,e⟩ | ⟨x,hx,q,hq,e⟩)
  ·exact ⟨q,hq,.inl e⟩
  ·exact ⟨q,hq,.inr ⟨x,hx,e⟩⟩
theorem GD {rs:List aC} {i:Nat} {r:aC} (hr:rs[i]? = some r) (k:bC):iF (rs.take (i + 1)) k = (iF (rs.take i) k || decide (k = r.name)):=by
 unfold iF
 rw [pI hr,l9.2 ⟨Eq.symm,Eq.symm⟩]
theorem ID {rs:List aC} {i:Nat} {r:aC} (hr:rs[i]? = some r) (k:bC):vF (rs.take (i + 1)) k = (vF (rs.take i) k || decide (k ∈ r.outs)):=pI hr
theorem Wj (h:bH E) {a:V} {rs:List aC} (ia:IS eC a rs) (hs:∀ x ∈ rs,Small x) (hE:gG rs = if gM rs = true then 2 else 0) (hl:rs.length <= 4294967296) {Y:Sg} {kr ko mr mo:Nat} {p2:bC -> Bool} (bx:nK E Y kr ko mr mo (iF rs) p2) (F:FT) (g0:F.get 0 = a) (g7:F.get 7 = .ref kr 0) (hk:∀ nm σ',K (.gB [.int .i64 (gG rs),.str nm]) σ') :
  R E (cutAt [1,1,1,1,1] (aA Tryz.f115).code) [] ⟨81,F⟩ Y (mE E (aA Tryz.f115).results K):=by
 have la:=cV h ia
 have d28:=h.Q7
 simp only [aA,Tryz.f115,cutAt,Z9] at d28
 simp only [aA,Tryz.f115,KP,↓reduceIte,reduceLT,cutAt,g0,la]
 refine aV (fun i F Y=>F.get 7 = .ref kr 0 /\ F.get 68 = a /\ F.get 69 = .int .i64 (rs.length:Int) /\ F.get 70 = .int .i64 (i:Int) /\ nK E Y kr ko mr mo (iF rs) p2 /\ ∀ (j:Nat) (r:aC),j < i -> rs[j]? = some r -> r.after.any (fun n=>!iF rs n) = false) rs.length ?_ ?_ rs.length 0 _ _ (by omega) (fE (by simp +decide only [GS,g7,Z5]) ⟨bx,fun j r hj=>by omega⟩)
 ·rintro i F Y hi ⟨g7,g68,g69,g70,bx,hp⟩ next
  obtain ⟨r,hr⟩:∃ y,rs[i]? = some y:=⟨_,AT hi⟩
  obtain ⟨g,p1,p2',p3,p4,e1,i1,i2,i3,i4⟩:=fF h ia hr
  have hsm:=hs r (Z2 hr)
  have a3:=hsm.after
  have o1:=aM i1.bD
  have o2:=aM i2.bD
  have o3:=aM i3.bD
  have o4:=aM i4.bD
  have hlt:=dZ hi
  have hadd:=bY i (by omega)
  have bx1:=bx.app (O.cells 46 [.str r.name,p1,p2',p3,p4] true)
  have s1:(Y ++ [O.cells 46 [.str r.name,p1,p2',p3,p4] true])[Y.length]? = some (O.cells 46 [.str r.name,p1,p2',p3,p4] true):=aK
  rw [aG]
  simp only [KP,Ax.loadAt,Ax.storeAt,↓reduceIte,reduceEqDiff,reduceLT,reduceAdd,reduceCtorEq,h.a_,h.bK,g7,g68,g69,g70,hlt,e1,o1,o2,o3,o4,aK,bV]
  generalize Y ++ [O.cells 46 [.str r.name,p1,p2',p3,p4] true] = τ1 at *
  generalize Y.length = y at *
  obtain ⟨es,hm,hsb⟩:=bx1.m1
  have ef:=Dz (f:=153) h bx1.b1 hm hsb
  have kf:=dK (fun K=>qY (Z:=τ1) (K:=K) (k:=153) (caps:=[.cW true [.imp true es]]) (P:=fun n=>!iF rs n) h (i3.ls τ1 9) (by omega) (fun c hc=>by cases hc with | head=>rfl | tail _ hc=>cases hc) (fun y v hy hv=>by
   subst hv
   show aB E 153 [.str y,.cW true [.imp true es]] [] _
   rw [OB h hsb]; exact ⟨rfl,rfl⟩) ef)
  cases m:r.after.any fun n=>!iF rs n with
  | true=>
   have hstr:gM rs = true:=by
    unfold gM
    refine bp.2 ⟨r,Z2 hr,?_⟩
    rw [<- m]
    exact ZL (fun f=>r.after.any f) (funext fun n=>tH)
   rw [hE,ZO hstr] at hk
   simp only [KP,Ax.loadAt,↓reduceIte,reduceEqDiff,reduceLT,reduceCtorEq,h.dG,h.bK,s1,kf,m,aU d28,bM]
   exact hk _ _
  | false=>
  simp only [KP,↓reduceIte,reduceEqDiff,reduceLT,g70,kf,m,hadd]
  refine next _ _ (fE (by simp +decide only [GS,g7,g68,g69,Z5]) ⟨bx1,fun j q hj hq=>?_⟩)
  rcases ZZ j i with g | g
  ·exact hp j q g hq
  ·obtain rfl:j = i:=by omega
   rw [hr] at hq; cases hq; exact m
 ·rintro F Y ⟨g7,g68,g69,g70,bx,hp⟩
  have hstr:gM rs = false:=by
   unfold gM
   refine jh.2 fun r hr=>?_
   obtain ⟨j,hj,e⟩:=bu hr
   have:=hp j r hj (by rw [AT hj,e])
   rw [show (r.after.any fun n=>decide (fT rs n = none)) = r.after.any fun n=>!iF rs n from ZL (fun f=>r.after.any f) (funext fun n=>tH),this]
   simp
  rw [hE,ZM (by rw [hstr]; simp)] at hk
  have hlt:=d_ (ZT rs.length)
  rw [aG]
  simp only [KP,↓reduceIte,reduceEqDiff,reduceLT,lB,g69,g70,hlt]
  exact hk _ _
end
end
section
section
variable {E:Env} {Z:Sg} {K:V -> Sg -> Prop}
theorem nK.congr {Y:Sg} {kr ko mr mo:Nat} {p1 p2 q1 q2:bC -> Bool} (h:nK E Y kr ko mr mo p1 p2) (e1:∀ k,p1 k = q1 k) (e2:∀ k,p2 k = q2 k):nK E Y kr ko mr mo q1 q2:=by
 rwa [show p1 = q1 from funext e1,show p2 = q2 from funext e2] at h
theorem Wi (h:bH E) {a:V} {rs:List aC} (ia:IS eC a rs) (hs:∀ x ∈ rs,Small x) (hE:gG rs = if sH rs = true then 2 else if gM rs = true then 2 else 0) (hl:rs.length <= 4294967296) {Y:Sg} {kr ko mr mo:Nat} (bx:nK E Y kr ko mr mo (fun _=>false) (fun _=>false)) (F:FT) (g0:F.get 0 = a) (g7:F.get 7 = .ref kr 0) (g8:F.get 8 = .ref ko 0) (hk:∀ nm σ',K (.gB [.int .i64 (gG rs),.str nm]) σ') :
  R E (cutAt [1,1,1,1] (aA Tryz.f115).code) [] ⟨81,F⟩ Y (mE E (aA Tryz.f115).results K):=by
 have la:=cV h ia
 have key:=fun (hE':gG rs = if gM rs = true then 2 else 0) Y p2 bx F g0 g7=>Wj (K:=K) (Y:=Y) (kr:=kr) (ko:=ko) (mr:=mr) (mo:=mo) (p2:=p2) h ia hs hE' hl bx F g0 g7 hk
 rw [show cutAt [1,1,1,1] (aA Tryz.f115).code = .seq (cutAt [1,1,1,1,0] (aA Tryz.f115).code) (cutAt [1,1,1,1,1] (aA Tryz.f115).code) from rfl]
 have d16:=h.Q8
 simp only [aA,Tryz.f115,cutAt,Z9] at d16
 generalize cutAt [1,1,1,1,1] (aA Tryz.f115).code = C at key ⊢
 simp only [aA,Tryz.f115,KP,↓reduceIte,reduceLT,cutAt,g0,la]
 refine aV (fun i F Y=>F.get 0 = a /\ F.get 7 = .ref kr 0 /\ F.get 8 = .ref ko 0 /\ F.get 35 = a /\ F.get 36 = .int .i64 (rs.length:Int) /\ F.get 37 = .int .i64 (i:Int) /\ nK E Y kr ko mr mo (iF (rs.take i)) (vF (rs.take i)) /\ ∀ j,j < i -> n_ rs j = false) rs.length ?_ ?_ rs.length 0 _ _ (by omega) (yJ (by simp +decide only [GS,g0,g7,g8,Z5]) ⟨bx,fun j hj=>by omega⟩)
 ·rintro i F Y hi ⟨g0,g7,g8,g35,g36,g37,bx,hp⟩ next
  obtain ⟨r,hr⟩:∃ y,rs[i]? = some y:=⟨_,AT hi⟩
  obtain ⟨g,p1,p2',p3,p4,e1,i1,i2,i3,i4⟩:=fF h ia hr
  have hsm:=hs r (Z2 hr)
  have a2:=hsm.outs
  have o1:=aM i1.bD
  have o2:=aM i2.bD
  have o3:=aM i3.bD
  have o4:=aM i4.bD
  have hlt:=dZ hi
  have hadd:=bY i (by omega)
  have lo:=bP h i2
  have bx1:=bx.app (O.cells 46 [.str r.name,p1,p2',p3,p4] true)
  have s1:(Y ++ [O.cells 46 [.str r.name,p1,p2',p3,p4] true])[Y.length]? = some (O.cells 46 [.str r.name,p1,p2',p3,p4] true):=aK
  rw [aG]
  simp only [KP,Ax.loadAt,Ax.storeAt,↓reduceIte,reduceEqDiff,reduceLT,reduceAdd,h.bK,h.sP,g7,g8,g35,g36,g37,hlt,e1,o1,o2,o3,o4,aK,bV]
  generalize Y ++ [O.cells 46 [.str r.name,p1,p2',p3,p4] true] = τ1 at *
  generalize Y.length = y at *
  obtain ⟨es1,hm1,hsb1⟩:=bx1.m1
  obtain ⟨es2,hm2,hsb2⟩:=bx1.m2
  have bb1:=bx1.b1
  have ef:=Dz (f:=152) h bx1.b2 hm2 hsb2
  have kf:=dK (fun K=>qY (Z:=τ1) (K:=K) (k:=152) (caps:=[.cW true [.imp true es2]]) (P:=vF (rs.take i)) h (i2.ls τ1 9) (by omega) (fun c hc=>by cases hc with | head=>rfl | tail _ hc=>cases hc) (fun y v hy hv=>by
   subst hv
   show aB E 152 [.str y,.cW true [.imp true es2]] [] _
   rw [OC h hsb2]; exact ⟨rfl,rfl⟩) ef)
  have hlk:=E7 (Z:=τ1) (x:=.mp mr) h (by unfold entriesOf; simp only [hm1]) hsb1 r.name
  have hcl:=CN hr
  have yes:n_ rs i = true -> gG rs = 2:=fun e=>by
   rw [hE,ZO]
   exact bp.2 ⟨i,j6.2 hi,e⟩
  cases m1:iF (rs.take i) r.name with
  | true=>
   rw [m1,Bool.true_or] at hcl
   rw [yes hcl] at hk
   simp only [KP,Ax.loadAt,↓reduceIte,reduceEqDiff,reduceLT,reduceCtorEq,h.dG,h.bK,s1,bb1,hlk,m1,aU d16,bM]
   exact hk _ _
  | false=>
  rw [m1,Bool.false_or] at hcl
  cases m2:r.outs.any (vF (rs.take i)) with
  | true=>
   rw [m2] at hcl
   rw [yes hcl] at hk
   simp only [KP,Ax.loadAt,↓reduceIte,reduceEqDiff,reduceLT,reduceCtorEq,h.dG,h.a_,h.bK,s1,bb1,hlk,kf,m1,m2,aU d16,bM]
   exact hk _ _
  | false=>
  rw [m2] at hcl
  obtain ⟨es1',hu,hsb1'⟩:=Mu h hm1 hsb1 r.name
  have bx2:=bx1.Tj hsb1'
  have ny:mr ≠ y:=pN hm1 s1 (by intro e; cases e)
  have s2:(τ1.set mr (.map es1'))[y]? = some (O.cells 46 [.str r.name,p1,p2',p3,p4] true):=by rw [No ny]; exact s1
  simp only [KP,Ax.loadAt,↓reduceIte,reduceEqDiff,reduceLT,reduceCtorEq,h.dG,h.a_,h.bK,h.sP,g7,s1,bb1,hlk,kf,m1,m2,hu,s2,lo]
  refine aV (fun j F Y=>F.get 0 = a /\ F.get 7 = .ref kr 0 /\ F.get 8 = .ref ko 0 /\ F.get 35 = a /\ F.get 36 = .int .i64 (rs.length:Int) /\ F.get 37 = .int .i64 (i:Int) /\ F.get 58 = p2' /\ F.get 59 = .int .i64 (r.outs.length:Int) /\ F.get 60 = .int .i64 (j:Int) /\ nK E Y kr ko mr mo (fun k=>iF (rs.take i) k || decide (k = r.name)) (fun k=>vF (rs.take i) k || decide (k ∈ r.outs.take j))) r.outs.length ?_ ?_ r.outs.length 0 _ _ (by omega) (AH (by simp +decide only [GS,g0,g7,g8,g35,g36,g37,Z5]) (bx2.congr (fun _=>rfl) (fun k=>by simp)))
  ·rintro j F Y hj ⟨g0,g7,g8,g35,g36,g37,g58,g59,g60,bx⟩ next2
   obtain ⟨s,hsj⟩:∃ y,r.outs[j]? = some y:=⟨_,AT hj⟩
   obtain ⟨g',e2⟩:=gI h i2 hsj
   have hlt2:=dZ hj
   have hadd2:=bY j (by omega)
   obtain ⟨es3,hm3,hsb3⟩:=bx.m2
   obtain ⟨es3',hu3,hsb3'⟩:=Mu h hm3 hsb3 s
   have bb2:=bx.b2
   rw [aG]
   simp only [KP,Ax.loadAt,↓reduceIte,reduceEqDiff,reduceLT,h.dG,h.sP,g8,g58,g59,g60,hlt2,e2,bb2,hu3,hadd2]
   refine next2 _ _ (AH (by simp +decide only [GS,g0,g7,g8,g35,g36,g37,g58,g59,Z5]) ((bx.put2 hsb3').congr (fun _=>rfl) (fun k=>?_)))
   rw [bh,hsj,Bool.or_assoc,b8]
   simp
  ·rintro F Y ⟨g0,g7,g8,g35,g36,g37,g58,g59,g60,bx⟩
   rw [Z6 (Z1 _)] at bx
   have hlt2:=d_ (ZT r.outs.length)
   rw [aG]
   simp only [KP,↓reduceIte,reduceEqDiff,reduceLT,g37,g59,g60,hlt2,hadd]
   refine next _ _ (yJ (by simp +decide only [GS,g0,g7,g8,g35,g36,Z5]) ⟨bx.congr (fun k=>(GD hr k).symm) (fun k=>(ID hr k).symm),fun j hj=>?_⟩)
   rcases ZZ j i with g | g
   ·exact hp j g
   ·obtain rfl:j = i:=by omega
    exact hcl
 ·rintro F Y ⟨g0,g7,g8,g35,g36,g37,bx,hp⟩
  have hcl:sH rs = false:=jh.2 fun j hj=>by rw [hp j (j6.1 hj)]; simp
  rw [ZM (by rw [hcl]; simp)] at hE
  rw [Z6 (Z1 _)] at bx
  have hlt:=d_ (ZT rs.length)
  rw [aG]
  simp only [KP,↓reduceIte,reduceLT,g36,g37,hlt]
  exact key hE _ _ bx _ (by simp +decide only [GS,g0]) (by simp +decide only [GS,g7])
end
end
section
section
variable {E:Env} {Z:Sg} {K:V -> Sg -> Prop}
theorem uR {Y:Sg} {a b c d:O} {n:Nat}:(Y ++ [a] ++ [b] ++ [c] ++ [d])[Y.length + n]? = [a,b,c,d][n]?:=by
 rw [ag,ag,ag,ZR (by omega),ji]
 rfl
theorem Oc {Y:Sg} {a b c d x:O}:(Y ++ [a] ++ [b] ++ [c] ++ [d]).set (Y.length + 2) x = Y ++ [a] ++ [b] ++ [x] ++ [d]:=by
 rw [ag,ag,ag,js _ _ (by omega),ji,ag,ag,ag]
 rfl
theorem LD {Y:Sg} {a b c d x:O}:(Y ++ [a] ++ [b] ++ [c] ++ [d]).set (Y.length + 3) x = Y ++ [a] ++ [b] ++ [c] ++ [x]:=by
 rw [ag,ag,ag,js _ _ (by omega),ji,ag,ag,ag]
 rfl
theorem IY {Y:Sg} {a b c:O}:(Y ++ [a]).length = Y.length + 1 /\ (Y ++ [a] ++ [b]).length = Y.length + 2 /\ (Y ++ [a] ++ [b] ++ [c]).length = Y.length + 3:=by simp
theorem KB (h:bH E) {a:V} {rs:List aC} (ha:LS eC 46 Z a rs) (hs:∀ x ∈ rs,Small x) (hl:rs.length <= 4294967296):aB E 115 [a] Z fun v σ'=>σ' = Z /\ ∃ nm,v = .gB [.int .i64 (gG rs),.str nm]:=by
 obtain ⟨a',ea,ia⟩:=eX h ha
 rw [aH h.Ye h.VE h.Y2 h.Xj (args':=[a']) (by simp only [aW,ea]),aX (by kernel_rfl)]
 have la:=cV h ia
 have key:=fun hE Y kr ko mr mo bx F g0 g7 g8=>Wi (K:=fun v σ1=>match cK σ1 E.ty false v with
   | some v=>∃ nm,v = .gB [.int .i64 (gG rs),.str nm]
   | none=>False) (Y:=Y) (kr:=kr) (ko:=ko) (mr:=mr) (mo:=mo) h ia hs hE hl bx F g0 g7 g8 (fun nm σ'=>⟨nm,rfl⟩)
 rw [show (aA Tryz.f115).code = .seq (cutAt [0] (aA Tryz.f115).code) (.seq (cutAt [1,0] (aA Tryz.f115).code) (.seq (cutAt [1,1,0] (aA Tryz.f115).code) (.seq (cutAt [1,1,1,0] (aA Tryz.f115).code) (cutAt [1,1,1,1] (aA Tryz.f115).code)))) from rfl]
 have d6:=h.Ue
 simp only [aA,Tryz.f115,cutAt,Z9] at d6
 generalize cutAt [1,1,1,1] (aA Tryz.f115).code = C at key ⊢
 simp only [aA,Tryz.f115,KP,↓reduceIte,reduceLT,reduceCtorEq,lB,cutAt,la]
 refine aV (fun i F Y=>F.get 0 = a' /\ F.get 16 = a' /\ F.get 17 = .int .i64 (rs.length:Int) /\ F.get 18 = .int .i64 (i:Int) /\ ∀ (j:Nat) (r:aC),j < i -> rs[j]? = some r -> bB r = 0) rs.length ?_ ?_ rs.length 0 _ _ (by omega) (fE (by simp +decide only [GS,Z5]) (fun j r hj=>by omega))
 ·rintro i F Y hi ⟨g0,g16,g17,g18,hp⟩ next
  obtain ⟨r,hr⟩:∃ y,rs[i]? = some y:=⟨_,AT hi⟩
  obtain ⟨g,p1,p2,p3,p4,e1,i1,i2,i3,i4⟩:=fF h ia hr
  have hsm:=hs r (Z2 hr)
  have o1:=aM i1.bD
  have o2:=aM i2.bD
  have o3:=aM i3.bD
  have o4:=aM i4.bD
  have hlt:=dZ hi
  have hadd:=bY i (by omega)
  have s1:(Y ++ [O.cells 46 [.str r.name,p1,p2,p3,p4] true])[Y.length]? = some (O.cells 46 [.str r.name,p1,p2,p3,p4] true):=aK
  have kr:=fun (Y:Sg)=>Qv (Z:=Y) h (v:=.agg [.str r.name,p1,p2,p3,p4]) ⟨p1,p2,p3,p4,rfl,i1,i2,i3,i4⟩ hsm
  rw [aG]
  simp only [KP,Ax.loadAt,Ax.storeAt,↓reduceIte,reduceEqDiff,reduceLT,reduceAdd,h.bK,g16,g17,g18,hlt,e1,o1,o2,o3,o4,aK,bV]
  generalize Y ++ [O.cells 46 [.str r.name,p1,p2,p3,p4] true] = τ1 at *
  generalize Y.length = y at *
  by_cases he:bB r = 0
  ·have q:=BY he
   simp only [KP,↓reduceIte,reduceEqDiff,reduceLT,g18,kr,q,hadd]
   refine next _ _ (fE (by simp +decide only [GS,g0,g16,g17,Z5]) (fun j x hj hx=>?_))
   rcases ZZ j i with g | g
   ·exact hp j x g hx
   ·obtain rfl:j = i:=by omega
    rw [hr] at hx; cases hx; exact he
  ·have q:=AS he
   rw [zW hr he fun j s hj hx=>hp j s hj hx]
   simp only [KP,Ax.loadAt,↓reduceIte,reduceEqDiff,reduceLT,reduceCtorEq,h.dG,h.bK,s1,kr,q,aU d6,bM]
   exact ⟨r.name,rfl⟩
 ·rintro F Y ⟨g0,g16,g17,g18,hp⟩
  have hE:=yC fun j s hx=>hp j s (AI.1 hx).1 hx
  have hlt:=d_ (ZT rs.length)
  rw [aG]
  by_cases h40:40 < rs.length
  ·have q:decide ((40:Int) < (rs.length:Int)) = true:=BY (by omega)
   rw [ZO h40] at hE
   rw [hE]
   simp only [KP,↓reduceIte,reduceEqDiff,reduceLT,reduceCtorEq,lB,g0,g17,g18,hlt,la,q]
   exact ⟨[],rfl⟩
  ·have q:decide ((40:Int) < (rs.length:Int)) = false:=AS (by omega)
   rw [ZM h40] at hE
   have n1:=(IY (Y:=Y) (a:=.map []) (b:=.map []) (c:=.cells 103 [.bU] true)).1
   have n2:=(IY (Y:=Y) (a:=.map []) (b:=.map []) (c:=.cells 103 [.bU] true)).2.1
   have n3:=(IY (Y:=Y) (a:=.map []) (b:=.map []) (c:=.cells 103 [.bU] true)).2.2
   have q1:(Y ++ [O.map []] ++ [O.map []] ++ [O.cells 103 [.bU] true] ++ [O.cells 103 [.bU] true])[Y.length + 2]? = some (O.cells 103 [.bU] true):=uR
   have q2:(Y ++ [O.map []] ++ [O.map []] ++ [O.cells 103 [.mp Y.length] true] ++ [O.cells 103 [.bU] true])[Y.length + 3]? = some (O.cells 103 [.bU] true):=uR
   simp only [KP,Ax.storeAt,↓reduceIte,reduceEqDiff,reduceLT,reduceCtorEq,h.sP,g0,g17,g18,hlt,la,q,n1,n2,n3,q1,q2,Oc,LD]
   refine key hE _ (Y.length + 2) (Y.length + 3) Y.length (Y.length + 1) ⟨uR,uR,⟨[],uR (n:=0),M5⟩,⟨[],uR,M5⟩,by omega⟩ _ ?_ ?_ ?_
   ·exact (by simp +decide only [GS,g0])
   ·exact (by simp +decide only [GS])
   ·exact (by simp +decide only [GS])
end
end
section
section
variable {E:Env} {Z:Sg} {K:V -> Sg -> Prop}
theorem D8 {lt:List V -> List V -> Bool} (x:List V):∀ l,(Cm lt x l).Perm (x :: l)
 | []=>.refl _
 | y :: r=>by
  rw [Cm]
  split
  ·exact .refl _
  ·exact ((D8 x r).cons y).trans (.swap x y r)
theorem Ct {lt:List V -> List V -> Bool}:∀ (l acc:List (List V)),(l.foldl (fun acc x=>Cm lt x acc) acc).Perm (l ++ acc)
 | [],acc=>.refl _
 | x :: l,acc=>by
  rw [j9]
  refine (Ct l _).trans ?_
  exact ((D8 x acc).append_left l).trans gk
theorem Im {lt:List V -> List V -> Bool} (l:List (List V)):(kL lt l).Perm l:=by
 have:=Ct (lt:=lt) l []
 rwa [cw] at this
def FP:List V -> bC
 | [.str s]=>s
 | _=>[]
theorem Ba:∀ {rs:List (List V)} {l:List bC},eP aO.P rs l -> rs = l.map fun s=>[V.str s]
 | _,_,.nil=>rfl
 | _,_,.cons h t=>by rw [ZQ,Ba t,show _ = [V.str _] from h]
theorem y_:∀ l:List bC,eP aO.P (l.map fun s=>[V.str s]) l
 | []=>.nil
 | _ :: l=>.cons rfl (y_ l)
theorem zT:∀ l:List bC,((l.map fun s=>[V.str s]).flatten).map (fun v=>[v]) = l.map fun s=>[V.str s]
 | []=>rfl
 | s :: l=>by simp only [ZQ,az,cj,zT l]; rfl
theorem AM:∀ {l:List bC},(∀ s ∈ l,s.length <= 9223372036854775807) -> allRows kF (l.map fun s=>[V.str s]) = true
 | [],_=>rfl
 | s :: l,h=>by
  have h1:kF [V.str s] = true:=ja (h s (IN ..))
  rw [ZQ,allRows,h1]
  exact AM fun x hx=>h x (OF _ hx)
theorem Dt:∀ {rows:List (List V)},(∀ r ∈ rows,∃ s,r = [V.str s]) -> rows = (rows.map FP).map fun s=>[V.str s]
 | [],_=>rfl
 | r :: rows,h=>by
  obtain ⟨s,e⟩:=h r (IN ..)
  rw [ZQ,ZQ,<- Dt fun x hx=>h x (OF _ hx),e]
  rfl
theorem Ea {Z:Sg} {w:V} {l:List bC} (ow:bA aO 9 Z w l) (hl:l.length <= 1000000) (hs:∀ s ∈ l,s.length <= 9223372036854775807):∃ σ' l',o_ 9 [w] Z = some (.gB [],σ') /\ l'.Perm l /\ bA aO 9 σ' w l' /\ Sp Z σ' w /\ σ'.length = Z.length:=by
 rcases ow with ⟨rfl,rfl⟩ | ⟨b,rs,ex,rfl,hb,ha⟩
 ·exact ⟨Z,[],rfl,.refl _,.inl ⟨rfl,rfl⟩,Sp.refl _ _,rfl⟩
 ·obtain rfl:=Ba ha
  have hp:(kL strLt (l.map fun s=>[V.str s])).Perm (l.map fun s=>[V.str s]):=Im _
  have he:((kL strLt (l.map fun s=>[V.str s])).map FP).Perm l:=by
   have:=hp.map FP
   rwa [iz,show FP ∘ (fun s=>[V.str s]) = id from rfl,List.map_id] at this
  have hr:kL strLt (l.map fun s=>[V.str s]) = ((kL strLt (l.map fun s=>[V.str s])).map FP).map fun s=>[V.str s]:=by
   refine Dt fun r hr=>?_
   obtain ⟨s,-,e⟩:=ah.1 (hp.mem_iff.1 hr)
   exact ⟨s,e.symm⟩
  have hlen:((l.map fun s=>[V.str s]).flatten).length = l.length:=by
   have:=ZL List.length (zT l)
   rwa [ZS,ZS] at this
  refine ⟨Z.set b (.cells 9 (kL strLt (l.map fun s=>[V.str s])).flatten ex),_,?_,he,.inr ⟨b,_,ex,?_,?_,y_ _⟩,?_,?_⟩
  ·unfold o_
   simp only [hb,zT,AM hs,show Nat.beq 9 9 = true from rfl,hlen,ja hl,show Nat.beq l.length l.length = true from Nat.beq_refl _]
  ·rw [ZS,hp.length_eq,ZS]
  ·rw [ZV (AI.1 hb).1,<- hr]
  ·intro c o hc hn
   rw [No (fun e=>hn (by rw [<- e]; rfl))]
   exact hc
  ·rw [bq]
end
end
section
section
variable {E:Env} {Z:Sg} {K:V -> Sg -> Prop}
def OL (Y:Sg) (v:V) (l:List bC):Prop:=(v = .aD /\ l = []) \/ ∃ b cs ex,v = .sl b 0 l.length none /\ Y[b]? = some (.cells 9 cs ex) /\ cs.take l.length = l.map V.str
theorem Cy:∀ l:List bC,(l.map fun s=>[V.str s]).flatten = l.map V.str
 | []=>rfl
 | s :: l=>by simp only [ZQ,az,Cy l]; rfl
theorem G0 (h:bH E) {b off n k:Nat} (hk:k < n):indexAddr E 24 (.sl b off n none) (.int .i64 (k:Int)) = some (.ref b (off + k)):=by
 unfold Ax.indexAddr
 simp only [h.a_,h.dG,show ¬ ((k:Int) < 0) by omega,ZK,b9,hk,ZP,k9]
theorem J9 (h:bH E) {Y:Sg} {b j:Nat} {A:List bC} {ex:Bool} {s:bC} (hb:Y[b]? = some (O.cells 9 (A.map V.str) ex)) (hj:A[j]? = some s):loadAt E Y 9 (.ref b j) = some (.str s):=by
 unfold Ax.loadAt
 have e:(A.map V.str)[j]? = some (.str s):=by rw [gp,hj]; rfl
 simp only [h.dG,hb,e,Ax.isAgg]
 rfl
theorem xA:∀ (A:List bC) (j:Nat) (s:bC),j < A.length -> setCells (A.map V.str) j [.str s] = (A.set j s).map V.str
 | [],_,_,h=>absurd h (by simp)
 | a :: A,0,s,_=>rfl
 | a :: A,j + 1,s,h=>by
  have:=xA A j s (by simpa using h)
  simp only [ZQ,jo,<- this]
  rfl
theorem UZ (h:bH E) {Y:Sg} {b j:Nat} {A:List bC} {ex:Bool} {s:bC} (hb:Y[b]? = some (O.cells 9 (A.map V.str) ex)) (hj:j < A.length):storeAt E Y 9 (.ref b j) (.str s) = some (Y.set b (O.cells 9 ((A.set j s).map V.str) ex)):=by
 unfold Ax.storeAt
 have e:decide (j + 1 <= (A.map V.str).length) = true:=BY (by rw [ZS]; omega)
 simp only [h.dG,hb,V.cells,Z0,ZN,dw,gy,V.aZ,e,xA A j s hj]
 rfl
theorem NO (h:bH E) {Y:Sg} {b off n:Nat}:lenOf E Y 24 (.sl b off n none) = some n:=by unfold lenOf; rw [h.a_]
theorem Ko (h:bH E) {Y:Sg} {b n k:Nat} {A:List bC} {ex:Bool} (hb:Y[b]? = some (O.cells 9 (A.map V.str) ex)) (hn:n = A.length) (hk:k < n):Ax.slice E Y 24 (.sl b 0 n none) (some (.int .i64 (k:Int))) none none = some (.sl b k (n - k) none):=by
 unfold Ax.slice
 simp only [h.a_,h.dG,hb,bound,show decide (0 <= (k:Int)) = true from BY (by omega),show decide ((k:Int) <= (n:Int)) = true from BY (by omega),lu,ZP,b9,an]
 show (if (1:Nat) = 0 then none else if (!(9 == 9)) = true then none else if k * 1 < (A.map V.str).length then some (V.sl b (k * 1) (n - k) none) else _) = _
 rw [ZM (by decide),ZM (by decide),ZO (by rw [ZS]; omega),k9]
theorem Pk (h:bH E) {Y:Sg} {b n k:Nat} {cs:List V} {ex:Bool} (hb:Y[b]? = some (.cells 9 cs ex)) (hn:n = cs.length) (hk:k < n):Ax.slice E Y 24 (.sl b 0 n none) none (some (.int .i64 (k:Int))) none = some (.sl b 0 k none):=by
 unfold Ax.slice
 simp only [h.a_,h.dG,hb,bound,FX,show decide (0 <= (k:Int)) = true from BY (by omega),b9,dz,jl,Nat.sub_zero,er]
 show (if (1:Nat) = 0 then none else if (!(9 == 9)) = true then none else match if decide ((k:Int) <= ((cs.length / 1:Nat):Int)) = true then some k else none with
  | none=>none
  | some h=>if 0 < cs.length then some (V.sl b 0 h none) else _) = _
 rw [ZM (by decide),ZM (by decide),ZO (by rw [Nat.div_one]; exact BY (by omega))]
 show (if 0 < cs.length then some (V.sl b 0 k none) else _) = _
 rw [ZO (by omega)]
theorem Oq (h:bH E) {Y:Sg} {b n k:Nat} {A:List bC} {ex:Bool} (hb:Y[b]? = some (O.cells 9 (A.map V.str) ex)) (hn:n = A.length) (hk:k < n):∃ cs,Ax.builtin E Y .clear #[24] [.sl b k (n - k) none] = some (.gB [],Y.set b (.cells 9 cs ex)) /\ cs.take k = (A.take k).map V.str /\ cs.length = n:=by
 have hne:¬ n - k = 0:=by omega
 have hle:decide (k + (n - k) * 1 <= (A.map V.str).length) = true:=BY (by rw [ZS]; omega)
 refine ⟨setCells (A.map V.str) k (iA (n - k) [.str []]),?_,?_,?_⟩
 ·unfold Ax.builtin
  show (match E.ty 24 with
   | some { kd:=.sl e,.. }=>match E.ty e,Y[b]? with
    | some i,some (.cells u cs ex)=>
     if n - k = 0 then some (V.gB [],Y)
     else if u == e && decide (k + (n - k) * i.size <= cs.length) then some (V.gB [],Y.set b (.cells u (setCells cs k (iA (n - k) i.zero.cells)) ex)) else none
    | _,_=>none
   | _=>none) = _
  simp only [h.a_,h.dG,hb,hne,ZK]
  rw [hle]
  rfl
 ·rw [List.map_take]
  clear hle hne
  unfold setCells
  rw [ag,List.take_append_of_le_length (by rw [ZW,ZS]; omega),l7,Nat.min_self]
 ·have hr:∀ m,(iA m [V.str []]).length = m:=fun m=>by
   induction m with
   | zero=>rfl
   | succ m ih=>rw [iA,Z7,ih]; simp; omega
  unfold setCells
  simp only [Z7,ZW,dh,ZS,hr]
  omega
end
end
section
section
variable {E:Env} {Z:Sg} {K:V -> Sg -> Prop}
theorem Sp.set {Z Y:Sg} {w:V} {b:Nat} {y:O} (h:Sp Z Y w) (hb:aQ w = some b):Sp Z (Y.set b y) w:=fun c o hc hn=>by
 rw [No (fun e=>hn (by rw [hb,e]))]
 exact h c o hc hn
theorem fO {l:List bC} {k:Nat} {u:bC} (hu:l[k]? = some u) (x:bC):x ∈ l.take (k + 1) ↔ x ∈ l.take k \/ x = u:=by
 rw [bh,hu]; simp
theorem Me (h:bH E) {w:V} {l:List bC} (ow:bA aO 9 Z w l) (hl:l.length <= 1000000):aB E 118 [w] Z fun v σ'=>(∃ l',OL σ' v l' /\ l'.length <= l.length /\ ∀ x,x ∈ l' ↔ x ∈ l) /\ (∀ c,aQ v = some c -> aQ w = some c) /\ Sp Z σ' w /\ σ'.length = Z.length:=by
 rw [dF h.Yb h.VB h.YZ h.Xg,aX (by kernel_rfl)]
 rcases ow with ⟨rfl,rfl⟩ | ⟨b,rs,ex,rfl,hb,ha⟩
 ·have ln:lenOf E Z 24 .aD = some 0:=by unfold lenOf; rw [h.a_]
  simp only [aA,Tryz.f118,KP,↓reduceIte,reduceLT,reduceCtorEq,Int.reduceLT,ln]
  exact ⟨⟨[],.inl ⟨rfl,rfl⟩,Z1 _,fun x=>mc⟩,fun c hc=>hc,Sp.refl _ _⟩
 obtain rfl:=Ba ha
 rw [Cy] at hb
 have hls:OL Z (.sl b 0 l.length none) l:=.inr ⟨b,_,ex,rfl,hb,Z6 (by rw [ZS]; exact Z1 _)⟩
 have lw:∀ Y,lenOf E Y 24 (.sl b 0 l.length none) = some l.length:=fun Y=>NO h
 by_cases h2:l.length < 2
 ·have q:decide ((l.length:Int) < 2) = true:=BY (by omega)
  simp only [aA,Tryz.f118,KP,↓reduceIte,reduceLT,reduceCtorEq,lw,q]
  exact ⟨⟨l,hls,Z1 _,fun x=>mc⟩,fun c hc=>hc,Sp.refl _ _⟩
 have q:decide ((l.length:Int) < 2) = false:=AS (by omega)
 have d6:=h.Ud
 simp only [aA,Tryz.f118,cutAt,Z9] at d6
 have d11:=h.Q6
 simp only [aA,Tryz.f118,cutAt,Z9] at d11
 simp only [aA,Tryz.f118,KP,↓reduceIte,reduceLT,reduceCtorEq,lw,q]
 refine aV (fun i F Y=>Y = Z /\ F.get 0 = .sl b 0 l.length none /\ F.get 3 = .int .i64 ((i + 1:Nat):Int)) (l.length - 1) ?_ ?_ (l.length - 1) 0 _ _ (by omega) ⟨rfl,(by simp +decide only [GS]),(by simp +decide only [GS]; rfl)⟩
 ·rintro i F Y hi ⟨rfl,g0,g3⟩ next
  obtain ⟨x,hx⟩:∃ x,l[i + 1]? = some x:=⟨_,AT (by omega)⟩
  obtain ⟨y,hy⟩:∃ y,l[i]? = some y:=⟨_,AT (by omega)⟩
  have hlt:=dZ (show i + 1 < l.length by omega)
  have hdn:=Dp (i + 1) (by omega) (by omega)
  rw [Nat.add_sub_cancel] at hdn
  have hadd:=bY (i + 1) (by omega)
  have e1:=G0 (b:=b) (off:=0) h (show i + 1 < l.length by omega)
  have e2:=G0 (b:=b) (off:=0) h (show i < l.length by omega)
  rw [an] at e1 e2
  have e3:=J9 h hb hx
  have e4:=J9 h hb hy
  rw [aG]
  by_cases hxy:x = y
  case neg=>
   have hs:=gD hxy
   simp only [KP,↓reduceIte,reduceEqDiff,reduceLT,reduceCtorEq,g0,g3,lw,hlt,hdn,hadd,e1,e2,e3,e4,hs,aU d6,bM]
   exact next _ _ ⟨rfl,(by simp +decide only [GS,g0,Z5])⟩
  have hs:=iD hxy
  have e5:=Ko h hb rfl (show i + 1 < l.length by omega)
  simp only [KP,↓reduceIte,reduceEqDiff,reduceLT,reduceCtorEq,g0,g3,lw,hlt,hdn,e1,e2,e3,e4,e5,hs,aU d6,bM]
  have hly:y ∈ l.take (i + 1):=Z2 (by rw [br (jn i)]; exact hy)
  have bo:aQ (.sl b 0 l.length none) = some b:=rfl
  have lw2:∀ Y,lenOf E Y 24 (.sl b (i + 1) (l.length - (i + 1)) none) = some (l.length - (i + 1)):=fun Y=>NO h
  refine aV (fun j F τ'=>F.get 0 = .sl b 0 l.length none /\ F.get 4 = .sl b (i + 1) (l.length - (i + 1)) none /\ F.get 5 = .int .i64 ((j + 1:Nat):Int) /\ Sp Y τ' (.sl b 0 l.length none) /\ τ'.length = Y.length /\ ∃ (A:List bC) (K:Nat),τ'[b]? = some (O.cells 9 (A.map V.str) ex) /\ A.length = l.length /\ F.get 3 = .int .i64 (K:Int) /\ i + 1 <= K /\ K <= i + 1 + j /\ (∀ p,i + 1 + j <= p -> A[p]? = l[p]?) /\ ∀ x,x ∈ A.take K ↔ x ∈ l.take (i + 1 + j + 1)) (l.length - (i + 1) - 1) ?_ ?_ (l.length - (i + 1) - 1) 0 _ _ (by omega) (lH (by simp +decide only [GS,g0,Z5]) ⟨(by simp +decide only [GS]; rfl),Sp.refl _ _,rfl,l,i + 1,hb,rfl,(by simp +decide only [GS,g3]),Z1 _,Z1 _,fun p _=>rfl,fun z=>by
   rw [fO (k:=i + 1 + 0) (u:=x) hx]
   constructor
   ·exact .inl
   ·rintro (g | rfl)
    ·exact g
    ·rw [hxy]; exact hly⟩)
  ·rintro j F τ' hj ⟨g0,g4,g5,sp,hlen,A,K,hA,hAl,g3,hK1,hK2,hag,hmem⟩ next2
   obtain ⟨u,hu⟩:∃ u,l[i + 1 + j + 1]? = some u:=⟨_,AT (by omega)⟩
   obtain ⟨v,hv⟩:∃ v,l[i + 1 + j]? = some v:=⟨_,AT (by omega)⟩
   have hu':A[i + 1 + (j + 1)]? = some u:=(hag _ (by omega)).trans hu
   have hv':A[i + 1 + j]? = some v:=(hag _ (by omega)).trans hv
   have hlt2:=dZ (show j + 1 < l.length - (i + 1) by omega)
   have hdn2:=Dp (j + 1) (by omega) (by omega)
   rw [Nat.add_sub_cancel] at hdn2
   have hadd2:=bY (j + 1) (by omega)
   have hadd3:=bY K (by omega)
   have f1:=G0 (b:=b) (off:=i + 1) h (show j + 1 < l.length - (i + 1) by omega)
   have f2:=G0 (b:=b) (off:=i + 1) h (show j < l.length - (i + 1) by omega)
   have f3:=J9 h hA hu'
   have f4:=J9 h hA hv'
   have f5:=G0 (b:=b) (off:=0) h (show K < l.length by omega)
   rw [an] at f5
   have f6:=UZ (s:=u) h hA (show K < A.length by omega)
   have hms:∀ z,z ∈ l.take (i + 1 + (j + 1) + 1) ↔ z ∈ l.take (i + 1 + j + 1) \/ z = u:=fO hu
   rw [aG]
   by_cases huv:u = v
   ·have hs2:=iD huv
    simp only [KP,↓reduceIte,reduceEqDiff,reduceLT,g4,g5,lw2,hlt2,hdn2,hadd2,f1,f2,f3,f4,hs2,aU d11,bM]
    refine next2 _ _ (iU (by simp +decide only [GS,g0,g4,Z5]) ⟨sp,hlen,A,K,hA,hAl,(by simp +decide only [GS,g3]),hK1,by omega,fun p hp=>hag p (by omega),fun z=>?_⟩)
    rw [hms,hmem]
    constructor
    ·exact .inl
    ·rintro (g | rfl)
     ·exact g
     ·rw [huv]
      exact Z2 (by rw [br (jn (i + 1 + j))]; exact hv)
   ·have hs2:=gD huv
    simp only [KP,↓reduceIte,reduceEqDiff,reduceLT,reduceCtorEq,g0,g3,g4,g5,lw2,hlt2,hdn2,hadd2,hadd3,f1,f2,f3,f4,f5,f6,hs2,aU d11,bM]
    refine next2 _ _ (iU (by simp +decide only [GS,g0,g4,Z5]) ⟨Sp.set sp bo,by rw [bq]; exact hlen,A.set K u,K + 1,by rw [ZV (AI.1 hA).1],by rw [bq]; exact hAl,(by simp +decide only [GS]),by omega,by omega,fun p hp=>?_,fun z=>?_⟩)
    ·rw [No (by omega)]; exact hag p (by omega)
    ·rw [hms,<- hmem,fO (u:=u) (by rw [ZV (by omega)]),List.take_set_of_le (Z1 K)]
  ·rintro F τ' ⟨g0,g4,g5,sp,hlen,A,K,hA,hAl,g3,hK1,hK2,hag,hmem⟩
   have hlt2:=d_ (show ¬ l.length - (i + 1) - 1 + 1 < l.length - (i + 1) by omega)
   have f1:=Ko h hA hAl.symm (show K < l.length by omega)
   obtain ⟨cs,f2,f3,f4⟩:=Oq h hA hAl.symm (show K < l.length by omega)
   have hA2:(τ'.set b (.cells 9 cs ex))[b]? = some (.cells 9 cs ex):=by rw [ZV (AI.1 hA).1]
   have f5:=Pk h hA2 f4.symm (show K < l.length by omega)
   have hKl:(A.take K).length = K:=by rw [ZW]; omega
   rw [aG]
   simp only [KP,↓reduceIte,reduceEqDiff,reduceLT,reduceCtorEq,g0,g3,g4,g5,lw2,hlt2,f1,f2,f5]
   refine ⟨⟨A.take K,.inr ⟨b,cs,ex,by rw [hKl],hA2,by rw [hKl]; exact f3⟩,by rw [hKl]; omega,fun z=>?_⟩,fun c hc=>hc,Sp.set sp bo,by rw [bq]; exact hlen⟩
   ·rw [hmem,show i + 1 + (l.length - (i + 1) - 1) + 1 = l.length by omega,Z6 (Z1 _)]
 ·rintro F Y ⟨rfl,g0,g3⟩
  have hlt:=d_ (show ¬ l.length - 1 + 1 < l.length by omega)
  rw [aG]
  simp only [KP,↓reduceIte,reduceEqDiff,reduceLT,reduceCtorEq,g0,g3,lw,hlt]
  exact ⟨⟨l,hls,Z1 _,fun x=>mc⟩,fun c hc=>hc,Sp.refl _ _⟩
end
end
section
section
variable {E:Env} {Z:Sg} {K:V -> Sg -> Prop}
def MK (get:bC -> Option V) (P:bC -> bC -> Prop):Prop:=∀ k,(get k = none /\ ∀ n,¬ P k n) \/ ∃ n,P k n /\ get k = some (.str n)
theorem MK.nil:MK (fun _=>none) fun _ _=>False:=fun _=>.inl ⟨rfl,fun _ h=>h⟩
theorem MK.put {get:bC -> Option V} {P:bC -> bC -> Prop} (h:MK get P) (k n:bC):MK (fun q=>if q = k then some (.str n) else get q) fun q m=>P q m \/ (q = k /\ m = n):=fun q=>by
 by_cases hq:q = k
 ·exact .inr ⟨n,.inr ⟨hq,rfl⟩,ZO hq⟩
 ·rcases h q with ⟨h1,h2⟩ | ⟨m,h1,h2⟩
  ·exact .inl ⟨(ZM hq).trans h1,fun m hm=>hm.elim (h2 m) fun g=>hq g.1⟩
  ·exact .inr ⟨m,.inl h1,(ZM hq).trans h2⟩
theorem MK.congr {get:bC -> Option V} {P Q:bC -> bC -> Prop} (h:MK get P) (e:∀ k n,P k n ↔ Q k n):MK get Q:=fun k=>by
 rcases h k with ⟨h1,h2⟩ | ⟨n,h1,h2⟩
 ·exact .inl ⟨h1,fun n hn=>h2 n ((e k n).2 hn)⟩
 ·exact .inr ⟨n,(e k n).1 h1,h2⟩
theorem Qa (h:bH E) {Z:Sg} {x:V} {es:List (V × V)} {get:bC -> Option V} (hx:entriesOf Z x = some es) (hs:SM E es get) (k:bC):lookup E Z 91 x (.str k) true = some (match get k with | some v=>.gB [v,.bool true] | none=>.gB [.str [],.bool false]):=by
 have hk:dX E 9 (.str k) = true:=by unfold dX; rw [h.dG]
 unfold Ax.lookup
 simp only [h.FU,h.dG,hk,hx,hs.2 k,aq,Z4,ZK]
 cases get k <;> rfl
theorem Sq (h:bH E) {Z:Sg} {b:Nat} {es:List (V × V)} {get:bC -> Option V} (hb:Z[b]? = some (.map es)) (hs:SM E es get) (k n:bC):∃ es',mapUpdate E Z 91 (.mp b) (.str k) (.str n) = some (Z.set b (.map es')) /\ SM E es' fun q=>if q = k then some (.str n) else get q:=by
 obtain ⟨es',h1,h2⟩:=ER h (v:=.str n) k rfl hs
 have hk:dX E 9 (.str k) = true:=by unfold dX; rw [h.dG]
 refine ⟨es',?_,h2⟩
 unfold Ax.mapUpdate
 simp only [h.FU,hk,hb,h1,eT,V.aZ,aq,ey,Z4,ZK,ZX]
def Mk (rs:List aC) (k n:bC):Prop:=∃ r ∈ rs,k ∈ r.outs /\ n = r.name
theorem KH {rs:List aC} {i:Nat} {r:aC} (hr:rs[i]? = some r) (k n:bC):Mk (rs.take (i + 1)) k n ↔ Mk (rs.take i) k n \/ (k ∈ r.outs /\ n = r.name):=by
 unfold Mk
 rw [bh,hr]
 simp only [aa,Option.toList_some,ae]
 constructor
 ·rintro ⟨q,hq | rfl,h⟩
  ·exact .inl ⟨q,hq,h⟩
  ·exact .inr h
 ·rintro (⟨q,hq,h⟩ | h)
  ·exact ⟨q,.inl hq,h⟩
  ·exact ⟨r,.inr rfl,h⟩
theorem WB (h:bH E) {a:V} {rs:List aC} (ia:IS eC a rs) (hs:∀ x ∈ rs,Small x) (hl:rs.length <= 4294967296) (F:FT) (g0:F.get 0 = a) (g3:F.get 3 = .mp 0)
  (hk:∀ F' Y es get,F'.get 0 = a -> F'.get 3 = .mp 0 -> Y[0]? = some (.map es) -> SM E es get -> MK get (Mk rs) -> R E (cutAt [1,1,1] (aA Tryz.f154).code) [] ⟨74,F'⟩ Y (mE E (aA Tryz.f154).results K)) :
  R E (cutAt [1,1] (aA Tryz.f154).code) [] ⟨74,F⟩ [.map []] (mE E (aA Tryz.f154).results K):=by
 have la:=cV h ia
 rw [show cutAt [1,1] (aA Tryz.f154).code = .seq (cutAt [1,1,0] (aA Tryz.f154).code) (cutAt [1,1,1] (aA Tryz.f154).code) from rfl]
 generalize cutAt [1,1,1] (aA Tryz.f154).code = C at hk ⊢
 simp only [aA,Tryz.f154,KP,↓reduceIte,reduceLT,cutAt,g0,la]
 refine aV (fun i F Y=>F.get 0 = a /\ F.get 3 = .mp 0 /\ F.get 17 = a /\ F.get 18 = .int .i64 (rs.length:Int) /\ F.get 19 = .int .i64 (i:Int) /\ ∃ es get,Y[0]? = some (.map es) /\ SM E es get /\ MK get (Mk (rs.take i))) rs.length ?_ ?_ rs.length 0 _ _ (by omega) (iJ (by simp +decide only [GS,g0,g3,Z5]) ⟨[],fun _=>none,rfl,Ir,MK.nil.congr fun k n=>⟨fun h=>h.elim,fun ⟨r,hr,_⟩=>by cases hr⟩⟩)
 ·rintro i F Y hi ⟨g0,g3,g17,g18,g19,es,get,hb,hsm,hmk⟩ next
  obtain ⟨r,hr⟩:∃ y,rs[i]? = some y:=⟨_,AT hi⟩
  obtain ⟨g,p1,p2,p3,p4,e1,i1,i2,i3,i4⟩:=fF h ia hr
  have hsr:=hs r (Z2 hr)
  have a2:=hsr.outs
  have o1:=aM i1.bD
  have o2:=aM i2.bD
  have o3:=aM i3.bD
  have o4:=aM i4.bD
  have hlt:=dZ hi
  have hadd:=bY i (by omega)
  have lo:=bP h i2
  have hb1:=aN (x:=O.cells 46 [.str r.name,p1,p2,p3,p4] true) hb
  have s1:(Y ++ [O.cells 46 [.str r.name,p1,p2,p3,p4] true])[Y.length]? = some (O.cells 46 [.str r.name,p1,p2,p3,p4] true):=aK
  rw [aG]
  simp only [KP,Ax.loadAt,Ax.storeAt,↓reduceIte,reduceEqDiff,reduceLT,reduceAdd,reduceCtorEq,h.a_,h.bK,g17,g18,g19,hlt,e1,o1,o2,o3,o4,aK,bV]
  generalize Y ++ [O.cells 46 [.str r.name,p1,p2,p3,p4] true] = τ1 at *
  generalize Y.length = y at *
  simp only [KP,↓reduceIte,reduceLT,lo]
  refine aV (fun j F Y=>F.get 0 = a /\ F.get 3 = .mp 0 /\ F.get 17 = a /\ F.get 18 = .int .i64 (rs.length:Int) /\ F.get 19 = .int .i64 (i:Int) /\ F.get 5 = .ref y 0 /\ F.get 24 = p2 /\ F.get 25 = .int .i64 (r.outs.length:Int) /\ F.get 26 = .int .i64 (j:Int) /\ Y[y]? = some (O.cells 46 [.str r.name,p1,p2,p3,p4] true) /\ ∃ es get,Y[0]? = some (.map es) /\ SM E es get /\ MK get fun k n=>Mk (rs.take i) k n \/ (k ∈ r.outs.take j /\ n = r.name)) r.outs.length ?_ ?_ r.outs.length 0 _ _ (by omega) (AH (by simp +decide only [GS,g0,g3,g17,g18,g19,Z5]) ⟨s1,es,get,hb1,hsm,hmk.congr fun k n=>by simp⟩)
  ·rintro j F Y hj ⟨g0,g3,g17,g18,g19,g5,g24,g25,g26,s1,es,get,hb,hsm,hmk⟩ next2
   obtain ⟨s,hsj⟩:∃ y,r.outs[j]? = some y:=⟨_,AT hj⟩
   obtain ⟨g',e2⟩:=gI h i2 hsj
   have hlt2:=dZ hj
   have hadd2:=bY j (by omega)
   obtain ⟨es',hu,hsm'⟩:=Sq h hb hsm s r.name
   have hy0:0 ≠ y:=pN hb s1 (by intro e; cases e)
   rw [aG]
   simp only [KP,Ax.loadAt,↓reduceIte,reduceEqDiff,reduceLT,reduceCtorEq,h.dG,h.bK,g3,g5,g24,g25,g26,hlt2,e2,s1,hu,hadd2]
   refine next2 _ _ (AH (by simp +decide only [GS,g0,g3,g17,g18,g19,g5,g24,g25,Z5]) ⟨by rw [No hy0]; exact s1,es',_,by rw [ZV (AI.1 hb).1],hsm',(hmk.put s r.name).congr fun k n=>?_⟩)
   rw [fO hsj]
   constructor
   ·rintro ((h1 | h1) | h1)
    ·exact .inl h1
    ·exact .inr ⟨.inl h1.1,h1.2⟩
    ·exact .inr ⟨.inr h1.1,h1.2⟩
   ·rintro (h1 | ⟨h1 | h1,h2⟩)
    ·exact .inl (.inl h1)
    ·exact .inl (.inr ⟨h1,h2⟩)
    ·exact .inr ⟨h1,h2⟩
  ·rintro F Y ⟨g0,g3,g17,g18,g19,g5,g24,g25,g26,s1,es,get,hb,hsm,hmk⟩
   rw [Z6 (Z1 _)] at hmk
   have hlt2:=d_ (ZT r.outs.length)
   rw [aG]
   simp only [KP,↓reduceIte,reduceEqDiff,reduceLT,g19,g25,g26,hlt2,hadd]
   exact next _ _ (iJ (by simp +decide only [GS,g0,g3,g17,g18,Z5]) ⟨es,get,hb,hsm,hmk.congr fun k n=>(KH hr k n).symm⟩)
 ·rintro F Y ⟨g0,g3,g17,g18,g19,es,get,hb,hsm,hmk⟩
  rw [Z6 (Z1 _)] at hmk
  have hlt:=d_ (ZT rs.length)
  rw [aG]
  simp only [KP,↓reduceIte,reduceLT,g18,g19,hlt]
  exact hk _ _ es get (by simp +decide only [GS,g0]) (by simp +decide only [GS,g3]) hb hsm hmk
end
end
section
section
variable {E:Env} {Z:Sg} {K:V -> Sg -> Prop}
theorem OL.keep {Z Y:Sg} {v:V} {l:List bC} (h:OL Z v l) (k:∀ (c:Nat) (o:O),aQ v = some c -> Z[c]? = some o -> Y[c]? = some o):OL Y v l:=by
 rcases h with h | ⟨b,cs,ex,rfl,hb,ht⟩
 ·exact .inl h
 ·exact .inr ⟨b,cs,ex,rfl,k b _ rfl hb,ht⟩
theorem OL.ok {Z:Sg} {v:V} {l:List bC} (h:OL Z v l):eT v = true:=by
 rcases h with ⟨rfl,-⟩ | ⟨b,cs,ex,rfl,-⟩ <;> rfl
def Sa (v:V) (l:List bC):Prop:=(v = .aD /\ l = []) \/ ∃ full,v = .bS false (l.map fun s=>[V.str s]) full
theorem oL:∀ l:List bC,Ax.rows 1 l.length (l.map V.str) = l.map fun s=>[V.str s]
 | []=>rfl
 | s :: l=>by
  rw [Z0,ZQ,Ax.rows,ZQ]
  exact ZL _ (oL l)
theorem OL.snap (h:bH E) {Z:Sg} {v:V} {l:List bC} {m:Nat} (ho:OL Z v l):∃ v',bO Z E.ty false (m + 2) v = some v' /\ Sa v' l:=by
 rcases ho with ⟨rfl,rfl⟩ | ⟨b,cs,ex,rfl,hb,ht⟩
 ·exact ⟨.aD,rfl,.inl ⟨rfl,rfl⟩⟩
 ·have hle:l.length <= cs.length:=by
   have:=ZL List.length ht
   rw [ZW,ZS] at this
   omega
  have ht1:cs.take (l.length * 1) = l.map V.str:=by rw [k9]; exact ht
  obtain ⟨full,e⟩:=Gb (g:=false) (n:=l.length) (m:=m) hb h.dG (show l.length * 1 <= _ by omega) (fun c hcm=>by
   rw [show cs.take (l.length * 1) = l.map V.str from ht1] at hcm
   obtain ⟨s,-,rfl⟩:=ah.1 hcm
   exact ⟨rfl,rfl⟩)
  refine ⟨_,e,.inr ⟨full,?_⟩⟩
  show V.bS false (Ax.rows 1 l.length (cs.take (l.length * 1))) full = _
  rw [ht1,oL]
theorem Sa.tag {v:V} {l:List bC} (h:Sa v l):cH false v = true:=by
 rcases h with ⟨rfl,-⟩ | ⟨full,rfl⟩ <;> rfl
def C3 (Y:Sg) (N:aC -> bC -> Prop) (es:List (V × V)) (rs:List aC):Prop:=eP (fun e r=>e.1 = V.str r.name /\ ∃ l,OL Y e.2 l /\ l.length <= 1000000 /\ ∀ x,x ∈ l ↔ N r x) es rs
def A7 (N:aC -> bC -> Prop) (es:List (V × V)) (rs:List aC):Prop:=eP (fun e r=>e.1 = V.str r.name /\ ∃ l,Sa e.2 l /\ l.length <= 1000000 /\ ∀ x,x ∈ l ↔ N r x) es rs
theorem C3.keep {Z Y:Sg} {N:aC -> bC -> Prop} {mA:Nat} {em:List (V × V)} {es:List (V × V)} {rs:List aC} (h:C3 Z N es rs) (hm:Z[mA]? = some (.map em)) (k:∀ (c:Nat) (o:O),Z[c]? = some o -> c ≠ mA -> Y[c]? = some o):C3 Y N es rs:=by
 refine eP.imp h fun e r ⟨h1,l,h2,h3⟩=>⟨h1,l,h2.keep fun c o hc ho=>k c o ho ?_,h3⟩
 rintro rfl
 rcases h2 with ⟨e0,-⟩ | ⟨b,cs,ex,e0,hb,-⟩
 ·rw [e0] at hc; cases hc
 ·rw [e0] at hc
  cases hc
  rw [hm] at hb
  cases hb
theorem B4 (h:bH E) {k:bC} {v:V}:∀ {es:List (V × V)},(∀ e ∈ es,∃ q,e.1 = V.str q /\ q ≠ k) -> jY (dQ E 9) (.str k) v es = some (es ++ [(.str k,v)])
 | [],_=>rfl
 | (k0,v0) :: es,hs=>by
  obtain ⟨q,e1,hq⟩:=hs _ (IN ..)
  dsimp only at e1
  subst e1
  rw [jY,bZ h,gD (gr hq)]
  simp only [B4 h fun e he=>hs e (OF _ he)]
  rfl
theorem Po (h:bH E) {Y:Sg} {b:Nat} {N:aC -> bC -> Prop} {es:List (V × V)} {rs:List aC} {r:aC} {v:V} {l:List bC} (hb:Y[b]? = some (.map es)) (ha:C3 Y N es rs) (hn:∀ q ∈ rs,q.name ≠ r.name) (hv:OL Y v l) (hl:l.length <= 1000000) (hm:∀ x,x ∈ l ↔ N r x) :
  mapUpdate E Y 101 (.mp b) (.str r.name) v = some (Y.set b (.map (es ++ [(.str r.name,v)]))) /\ C3 (Y.set b (.map (es ++ [(.str r.name,v)]))) N (es ++ [(.str r.name,v)]) (rs ++ [r]):=by
 have hk:dX E 9 (.str r.name) = true:=by unfold dX; rw [h.dG]
 have hp:=B4 (v:=v) (k:=r.name) h (es:=es) fun e he=>by
  obtain ⟨q,hq,h1,-⟩:=eP.mem ha he
  exact ⟨q.name,h1,hn q hq⟩
 have hkeep:∀ (c:Nat) (o:O),Y[c]? = some o -> c ≠ b -> (Y.set b (.map (es ++ [(.str r.name,v)])))[c]? = some o:=fun c o hc hcb=>by
  rw [No (gr hcb)]; exact hc
 refine ⟨?_,?_⟩
 ·unfold Ax.mapUpdate
  simp only [h.UW,hk,hb,hp,hv.ok,aq,ey,Z4,ZK,ZX]
 ·refine eP.append (ha.keep hb hkeep) (.cons ⟨rfl,l,hv.keep fun c o hc ho=>hkeep c o ho ?_,hl,hm⟩ .nil)
  rintro rfl
  rcases hv with ⟨e0,-⟩ | ⟨b',cs,ex,e0,hb',-⟩
  ·rw [e0] at hc; cases hc
  ·rw [e0] at hc
   cases hc
   rw [hb] at hb'
   cases hb'
theorem M0 (h:bH E) {Y:Sg} {b:Nat} {N:aC -> bC -> Prop} {es:List (V × V)} {rs:List aC} (hb:Y[b]? = some (.map es)) (ha:C3 Y N es rs):∃ es',cK Y E.ty false (.mp b) = some (.imp false es') /\ A7 N es' rs:=by
 have key:∀ {es:List (V × V)} {rs:List aC},C3 Y N es rs -> ∃ es',aW (fun (e:V × V)=>if e.1.cells.all Ax.plainCell then (match e.2 with
   | .agg cs=>match aW (fun v=>match bO Y E.ty false 11 v with
     | some v=>if cH false v then some v else Ax.no "snap: borrowed"
     | none=>none) cs with
    | some cs=>some (e.1,V.agg cs)
    | none=>none
   | v=>match (match bO Y E.ty false 11 v with
     | some v=>if cH false v then some v else Ax.no "snap: borrowed"
     | none=>none) with
    | some v=>some (e.1,v)
    | none=>none) else none) es = some es' /\ A7 N es' rs:=by
  intro es rs ha
  induction ha with
  | nil=>exact ⟨[],rfl,.nil⟩
  | @cons e r es rs h1 _ ih=>
   obtain ⟨es',e1,a1⟩:=ih
   obtain ⟨a,v⟩:=e
   obtain ⟨h2,l,h3,h4,h5⟩:=h1
   dsimp only at h2 h3
   subst h2
   obtain ⟨v',e2,sv⟩:=h3.snap (m:=9) h
   refine ⟨(.str r.name,v') :: es',?_,.cons ⟨rfl,l,sv,h4,h5⟩ a1⟩
   rw [aW]
   have hpc:(V.str r.name).cells.all Ax.plainCell = true:=rfl
   have ht:=sv.tag
   rcases h3 with ⟨rfl,-⟩ | ⟨b',cs,ex,rfl,-⟩
   ·simp only [hpc,ZP,e2,ht,e1]
   ·simp only [hpc,ZP,e2,ht,e1]
 obtain ⟨es',e1,a1⟩:=key ha
 refine ⟨es',?_,a1⟩
 have e:bO Y E.ty false 12 (.mp b) = some (.imp false es'):=by
  rw [bO]
  simp only [hb]
  exact ZL (fun o=>match o with
   | some l=>some (V.imp false l)
   | none=>none) e1
 show aS.one Y E.ty false (.mp b) = _
 unfold aS.one
 rw [show dJ = 12 from rfl,e]
 rfl
end
end
section
section
variable {E:Env} {Z:Sg} {K:V -> Sg -> Prop}
theorem Tt (h:bH E) {τ0 Y:Sg} {w p1 p2 p3 p4:V} {l:List bC} {r:aC} {y mA:Nat} {es:List (V × V)} {N:aC -> bC -> Prop} {rs:List aC} (ow:bA aO 9 Y w l) (hl:l.length <= 1000000) (kp:Kp τ0 Y) (fr:∀ b,aQ w = some b -> τ0.length <= b) (hy:τ0[y]? = some (O.cells 46 [.str r.name,p1,p2,p3,p4] true)) (hA:τ0[mA]? = some (.map es)) (ha:C3 τ0 N es rs) (hn:∀ q ∈ rs,q.name ≠ r.name) (hm:∀ x,x ∈ l ↔ N r x)
  (F:FT) (g8:F.get 8 = .mp mA) (g10:F.get 10 = .ref y 0) (g11:F.get 11 = w) {st:List jG} {Q:Ax.X -> Fr -> Sg -> Prop}
  (hk:∀ F' τ' es',(∀ k,k ∈ [0,3,8,37,38,39] -> F'.get k = F.get k) -> τ'[mA]? = some (.map es') -> C3 τ' N es' (rs ++ [r]) -> (∀ (c:Nat) (o:O),τ0[c]? = some o -> c ≠ mA -> τ'[c]? = some o) -> M E st .normal ⟨74,F'⟩ τ' Q):R E (.region 24 (opsOf (cutAt [1,1,1,1,0,1,2,2,1,1,0,2,1,1,1,1] (aA Tryz.f154).code)) true) st ⟨74,F⟩ Y Q:=by
 obtain ⟨n,v,τ1,hcall,⟨l',ol,hle,hmem⟩,hbk,sp,hlen⟩:=Me h ow hl
 have kp1:Kp τ0 τ1:=fun c o hc=>sp c o (kp c o hc) fun e=>absurd (AI.1 hc).1 (by have:=fr c e; omega)
 have hy0:=kp _ _ hy
 have hy1:=kp1 _ _ hy
 have hA1:=kp1 _ _ hA
 obtain ⟨hu,ha2⟩:=Po h hA1 (ha.keep hA fun c o hc _=>kp1 c o hc) hn ol (by omega) (fun x=>(hmem x).trans (hm x))
 have vs:=wR 11 r.name
 have key:∃ F',cE E (ev E n) (opsOf (cutAt [1,1,1,1,0,1,2,2,1,1,0,2,1,1,1,1] (aA Tryz.f154).code)) ⟨74,F⟩ Y = some (⟨74,F'⟩,τ1.set mA (.map (es ++ [(.str r.name,v)]))) /\ (∀ k,k ∈ [0,3,8,37,38,39] -> F'.get k = F.get k):=by
  unfold cE
  rw [h.Pf,h.PV]
  simp only [aA,Tryz.f154,KP,Ax.loadAt,↓reduceIte,reduceEqDiff,reduceLT,reduceAdd,reduceCtorEq,h.dG,h.bK,opsOf,cutAt,gL,bF,b_,jW,Ax.comp,Ax.last,gH,Ax.again,aR,g8,g10,g11,hy0,hy1,hcall,hu,vs]
  refine ⟨_,rfl,fun k hk=>?_⟩
  simp only [By,ZY,bt] at hk
  rcases hk with rfl | rfl | rfl | rfl | rfl | rfl <;> simp +decide only [GS]
 obtain ⟨F',hD,h1⟩:=key
 refine Eq.mpr (gP hD) (hk F' _ _ h1 (by rw [ZV (AI.1 hA1).1]) ha2 fun c o hc hcm=>?_)
 rw [No (gr hcm)]
 exact kp1 c o hc
end
end
section
section
variable {E:Env} {Z:Sg} {K:V -> Sg -> Prop}
def Nx (rs:List aC) (r:aC) (x:bC):Prop:=x ∈ r.after \/ ∃ f ∈ r.ins,Mk rs f x
structure Ev (rs:List aC):Prop where
 names:∀ r ∈ rs,r.name.length <= 40
 UD:∀ r ∈ rs,∀ s ∈ r.after,s.length <= 40
 nodup:∀ (i j:Nat) (p q:aC),rs[i]? = some p -> rs[j]? = some q -> p.name = q.name -> i = j
 jA:∀ f n m,Mk rs f n -> Mk rs f m -> n = m
theorem Mk.short {rs:List aC} (h:Ev rs) {f n:bC} (hm:Mk rs f n):n.length <= 40:=by
 obtain ⟨r,hr,-,rfl⟩:=hm
 exact h.names r hr
theorem WA (h:bH E) {a:V} {rs:List aC} (ia:IS eC a rs) (hs:∀ x ∈ rs,Small x) (hsh:Ev rs) (hl:rs.length <= 1000) {Y:Sg} {es0:List (V × V)} {get:bC -> Option V} (h0:Y[0]? = some (.map es0)) (hsm:SM E es0 get) (hmk:MK get (Mk rs)) (F:FT) (g0:F.get 0 = a) (g3:F.get 3 = .mp 0) :
  R E (cutAt [1,1,1] (aA Tryz.f154).code) [] ⟨74,F⟩ Y (mE E (aA Tryz.f154).results (fun v σ1=>match cK σ1 E.ty false v with
   | some v=>∃ es,v = .imp false es /\ A7 (Nx rs) es rs
   | none=>False)):=by
 have la:=cV h ia
 have rest:=fun {τ0 Y w p1 p2 p3 p4 l r y mA es rs'} ow hl' kp fr hy hA ha hn hm F g8 g10 g11 st Q hk=>Tt (τ0:=τ0) (Y:=Y) (w:=w) (p1:=p1) (p2:=p2) (p3:=p3) (p4:=p4) (l:=l) (r:=r) (y:=y) (mA:=mA) (es:=es) (N:=Nx rs) (rs:=rs') h ow hl' kp fr hy hA ha hn hm F g8 g10 g11 (st:=st) (Q:=Q) hk
 simp only [aA,Tryz.f154,KP,↓reduceIte,reduceLT,reduceCtorEq,cutAt,g0,la]
 have hA0:(Y ++ [O.map []])[Y.length]? = some (.map []):=aK
 have h00:=aN (x:=O.map []) h0
 have hmA:Y.length ≠ 0:=by have:=(AI.1 h0).1; omega
 generalize Y ++ [O.map []] = τ1 at *
 generalize Y.length = mA at *
 refine aV (fun i F Y=>F.get 0 = a /\ F.get 3 = .mp 0 /\ F.get 8 = .mp mA /\ F.get 37 = a /\ F.get 38 = .int .i64 (rs.length:Int) /\ F.get 39 = .int .i64 (i:Int) /\ Y[0]? = some (.map es0) /\ ∃ es,Y[mA]? = some (.map es) /\ C3 Y (Nx rs) es (rs.take i)) rs.length ?_ ?_ rs.length 0 _ _ (by omega) (yJ (by simp +decide only [GS,g0,g3,Z5]) ⟨h00,[],hA0,.nil⟩)
 ·rintro i F Y hi ⟨g0,g3,g8,g37,g38,g39,h0,es,hA,ha⟩ next
  obtain ⟨r,hr⟩:∃ y,rs[i]? = some y:=⟨_,AT hi⟩
  have hrm:=Z2 hr
  obtain ⟨g,p1,p2,p3,p4,e1,i1,i2,i3,i4⟩:=fF h ia hr
  have hsr:=hs r hrm
  have a1:=hsr.ins
  have a3:=hsr.after
  have o1:=aM i1.bD
  have o2:=aM i2.bD
  have o3:=aM i3.bD
  have o4:=aM i4.bD
  have hlt:=dZ hi
  have hadd:=bY i (by omega)
  have li:=bP h i1
  have hnn:∀ q ∈ rs.take i,q.name ≠ r.name:=fun q hq e=>by
   obtain ⟨j,hj⟩:=cr.1 hq
   have hji:j < i:=by have:=(AI.1 hj).1; rw [ZW] at this; omega
   rw [br hji] at hj
   have:=hsh.nodup j i q r hj hr e
   omega
  have hb1:=aN (x:=O.cells 46 [.str r.name,p1,p2,p3,p4] true) h0
  have hA1:=aN (x:=O.cells 46 [.str r.name,p1,p2,p3,p4] true) hA
  have ha1:C3 (Y ++ [O.cells 46 [.str r.name,p1,p2,p3,p4] true]) (Nx rs) es (rs.take i):=ha.keep hA fun c o hc _=>aN hc
  have s1:(Y ++ [O.cells 46 [.str r.name,p1,p2,p3,p4] true])[Y.length]? = some (O.cells 46 [.str r.name,p1,p2,p3,p4] true):=aK
  rw [aG]
  simp only [KP,Ax.loadAt,Ax.storeAt,↓reduceIte,reduceEqDiff,reduceLT,reduceAdd,reduceCtorEq,h.a_,h.bK,g37,g38,g39,hlt,e1,o1,o2,o3,o4,aK,bV]
  generalize Y ++ [O.cells 46 [.str r.name,p1,p2,p3,p4] true] = τ1 at *
  generalize Y.length = y at *
  refine aP (sK h i3 (by omega)) ?_
  rintro w0 τ2 ⟨ow0,kp0,fr0⟩
  have s2:=kp0 _ _ s1
  simp only [KP,Ax.loadAt,↓reduceIte,reduceEqDiff,reduceLT,reduceCtorEq,h.a_,h.bK,s2,li]
  refine aV (fun j F Y=>F.get 0 = a /\ F.get 3 = .mp 0 /\ F.get 8 = .mp mA /\ F.get 37 = a /\ F.get 38 = .int .i64 (rs.length:Int) /\ F.get 39 = .int .i64 (i:Int) /\ F.get 10 = .ref y 0 /\ F.get 47 = p1 /\ F.get 48 = .int .i64 (r.ins.length:Int) /\ F.get 49 = .int .i64 (j:Int) /\ Kp τ1 Y /\ ∃ w cur,F.get 11 = w /\ bA aO 9 Y w cur /\ (∀ b,aQ w = some b -> τ1.length <= b) /\ cur.length <= r.after.length + j /\ (∀ x ∈ cur,x.length <= 40) /\ ∀ x,x ∈ cur ↔ x ∈ r.after \/ ∃ f ∈ r.ins.take j,Mk rs f x) r.ins.length ?_ ?_ r.ins.length 0 _ _ (by omega) (I5 (by simp +decide only [GS,g0,g3,g8,g37,g38,g39,Z5]) ⟨kp0,w0,r.after,(by simp +decide only [GS]),ow0,fr0,Z1 _,hsh.UD r hrm,fun x=>by simp⟩)
  ·rintro j F Y hj ⟨g0,g3,g8,g37,g38,g39,g10,g47,g48,g49,kp,w,cur,g11,ow,fr,hcl,hc40,hmem⟩ next2
   obtain ⟨s,hsj⟩:∃ y,r.ins[j]? = some y:=⟨_,AT hj⟩
   obtain ⟨g',e2⟩:=gI h i1 hsj
   have hlt2:=dZ hj
   have hadd2:=bY j (by omega)
   have hb2:=kp _ _ hb1
   have hlk:=Qa (Z:=Y) (x:=.mp 0) h (by unfold entriesOf; simp only [hb2]) hsm s
   have hex:∀ x,(∃ f ∈ r.ins.take (j + 1),Mk rs f x) ↔ (∃ f ∈ r.ins.take j,Mk rs f x) \/ Mk rs s x:=fun x=>by
    constructor
    ·rintro ⟨f,hf,hm⟩
     rcases (fO hsj f).1 hf with hf | rfl
     ·exact .inl ⟨f,hf,hm⟩
     ·exact .inr hm
    ·rintro (⟨f,hf,hm⟩ | hm)
     ·exact ⟨f,(fO hsj f).2 (.inl hf),hm⟩
     ·exact ⟨s,(fO hsj s).2 (.inr rfl),hm⟩
   rw [aG]
   rcases hmk s with ⟨hg,hno⟩ | ⟨n,hP,hg⟩
   ·rw [hg] at hlk
    simp only [KP,Ax.loadAt,↓reduceIte,reduceEqDiff,reduceLT,h.dG,g3,g47,g48,g49,hlt2,e2,hlk,hadd2]
    refine next2 _ _ (I5 (by simp +decide only [GS,g0,g3,g8,g37,g38,g39,g10,g47,g48,Z5]) ⟨kp,w,cur,(by simp +decide only [GS,g11]),ow,fr,by omega,hc40,fun x=>?_⟩)
    rw [hmem,hex]
    exact ⟨fun h=>h.elim .inl fun g=>.inr (.inl g),fun h=>h.elim .inl fun g=>.inr (g.elim id fun g=>absurd g (hno x))⟩
   ·rw [hg] at hlk
    obtain ⟨w',τ',hap,ow',sp',hln',fr'⟩:=gT (ats:=#[24,24]) (m:=[n]) (new:=[[.str n]]) h.a_ rfl h.dG rfl (by decide) (jL h) rfl (ow.app [.cells 9 [.str n] true]) (mN rfl) (.one rfl) (dD (b:=1000) (by decide) (by simp only [Z0,ZN]; omega))
    simp only [KP,Ax.loadAt,↓reduceIte,reduceEqDiff,reduceLT,reduceLeDiff,reduceMul,h.dG,h.a_,g3,g11,g47,g48,g49,hlt2,e2,hlk,kP,hap,hadd2]
    refine next2 _ _ (I5 (by simp +decide only [GS,g0,g3,g8,g37,g38,g39,g10,g47,g48,Z5]) ⟨fun c o hc=>sp' c o (aN (kp c o hc)) fun e=>absurd (AI.1 hc).1 (by have:=fr c e; omega),w',cur ++ [n],(by simp +decide only [GS]),ow',fun b hb=>?_,by rw [Z7,cq]; omega,fun x hx=>?_,fun x=>?_⟩)
    ·rcases fr' b hb with g | g
     ·exact fr b g
     ·have h1:=(AI.1 (kp _ _ s1)).1
      have h2:τ1.length <= Y.length:=by
       refine k8 fun hlt=>?_
       obtain ⟨o,ho⟩:∃ o,τ1[Y.length]? = some o:=⟨_,AT hlt⟩
       exact absurd (AI.1 (kp _ _ ho)).1 (ZT _)
      simp only [Z7,Z0,ZN] at g
      omega
    ·rcases aa.1 hx with hx | hx
     ·exact hc40 x hx
     ·rw [ae.1 hx]; exact hP.short hsh
    ·rw [aa,hmem,hex,ae]
     constructor
     ·rintro ((h1 | h1) | rfl)
      ·exact .inl h1
      ·exact .inr (.inl h1)
      ·exact .inr (.inr hP)
     ·rintro (h1 | h1 | h1)
      ·exact .inl (.inl h1)
      ·exact .inl (.inr h1)
      ·exact .inr (hsh.jA s x n h1 hP)
  ·rintro F Y ⟨g0,g3,g8,g37,g38,g39,g10,g47,g48,g49,kp,w,cur,g11,ow,fr,hcl,hc40,hmem⟩
   rw [Z6 (Z1 _)] at hmem
   have hlt2:=d_ (ZT r.ins.length)
   obtain ⟨τ3,cur',hS,hperm,ow3,Pc,hln3⟩:=Ea ow (by omega) (fun x hx=>by have:=hc40 x hx; omega)
   have ks:=dK (fun K=>show aB E 73 [w] Y K = K (.gB []) τ3 by rw [nT h.N7,hS]; rfl)
   have kp3:Kp τ1 τ3:=fun c o hc=>Pc c o (kp c o hc) fun e=>absurd (AI.1 hc).1 (by have:=fr c e; omega)
   rw [aG]
   simp only [KP,↓reduceIte,reduceEqDiff,reduceLT,g11,g48,g49,hlt2,ks]
   refine rest (rs':=rs.take i) ow3 (by rw [hperm.length_eq]; omega) kp3 fr s1 hA1 ha1 hnn (fun x=>?_) _ ?_ ?_ ?_ _ _ ?_
   ·rw [hperm.mem_iff,hmem]; exact mc
   ·exact (by simp +decide only [GS,g8])
   ·exact (by simp +decide only [GS,g10])
   ·exact (by simp +decide only [GS,g11])
   intro F' τ' es' hF hA' ha' hk'
   have q0:F'.get 0 = a:=(hF 0 (by simp)).trans (by simp +decide only [GS,g0])
   have q3:F'.get 3 = .mp 0:=(hF 3 (by simp)).trans (by simp +decide only [GS,g3])
   have q8:F'.get 8 = .mp mA:=(hF 8 (by simp)).trans (by simp +decide only [GS,g8])
   have q37:F'.get 37 = a:=(hF 37 (by simp)).trans (by simp +decide only [GS,g37])
   have q38:F'.get 38 = .int .i64 (rs.length:Int):=(hF 38 (by simp)).trans (by simp +decide only [GS,g38])
   have q39:F'.get 39 = .int .i64 (i:Int):=(hF 39 (by simp)).trans (by simp +decide only [GS,g39])
   simp only [KP,↓reduceIte,reduceLT,q39,hadd]
   refine next _ _ (yJ (by simp +decide only [GS,q0,q3,q8,q37,q38,Z5]) ⟨hk' 0 _ hb1 (gr hmA),es',hA',?_⟩)
   rw [bh,hr]
   exact ha'
 ·rintro F Y ⟨g0,g3,g8,g37,g38,g39,h0,es,hA,ha⟩
  rw [Z6 (Z1 _)] at ha
  obtain ⟨es',e1,a1⟩:=M0 h hA ha
  have hlt:=d_ (ZT rs.length)
  rw [aG]
  simp only [KP,↓reduceIte,reduceEqDiff,reduceLT,g8,g38,g39,hlt,e1]
  exact ⟨es',rfl,a1⟩
theorem Rp (h:bH E) {a:V} {rs:List aC} (ha:LS eC 46 Z a rs) (hs:∀ x ∈ rs,Small x) (hsh:Ev rs) (hl:rs.length <= 1000):aB E 154 [a] Z fun v σ'=>σ' = Z /\ ∃ es,v = .imp false es /\ A7 (Nx rs) es rs:=by
 obtain ⟨a',ea,ia⟩:=eX h ha
 rw [aH h.X2 h.Vs h.YQ h.W8 (args':=[a']) (by simp only [aW,ea]),aX (by kernel_rfl)]
 have key:=fun Y es0 get h0 hsm hmk F g0 g3=>WA (Y:=Y) (es0:=es0) (get:=get) h ia hs hsh hl h0 hsm hmk F g0 g3
 have k2:=fun F g0 g3 hk=>WB (K:=fun v σ1=>match cK σ1 E.ty false v with
   | some v=>∃ es,v = .imp false es /\ A7 (Nx rs) es rs
   | none=>False) h ia hs (by omega) F g0 g3 hk
 rw [show (aA Tryz.f154).code = .seq (cutAt [0] (aA Tryz.f154).code) (.seq (cutAt [1,0] (aA Tryz.f154).code) (cutAt [1,1] (aA Tryz.f154).code)) from rfl]
 generalize cutAt [1,1] (aA Tryz.f154).code = C at k2 ⊢
 simp only [aA,Tryz.f154,KP,↓reduceIte,reduceLT,cutAt]
 refine k2 _ ?_ ?_ fun F' Y es get g0 g3 hb hsm hmk=>key Y es get hb hsm hmk F' g0 g3
 ·exact (by simp +decide only [GS])
 ·exact (by simp +decide only [GS])
end
end
section
section
variable {E:Env} {Z:Sg} {K:V -> Sg -> Prop}
theorem A7.back {N:aC -> bC -> Prop}:∀ {es:List (V × V)} {rs:List aC},A7 N es rs -> nN es = true /\ es.map ks = rs.map aC.name /\ es.length = rs.length
 | _,_,.nil=>⟨rfl,rfl,rfl⟩
 | (a,v) :: es,r :: rs,.cons h t=>by
  obtain ⟨h1,l,h2,h3,-⟩:=h
  obtain ⟨i1,i2,i3⟩:=A7.back (N:=N) t
  dsimp only at h1 h2
  subst h1
  refine ⟨?_,?_,by rw [Z0,Z0,i3]⟩
  ·have hr:∀ l:List bC,uI (l.map fun s=>[V.str s]) = true:=fun l=>by
    induction l with
    | nil=>rfl
    | cons s l ih=>rw [ZQ,uI]; exact ih
   rcases h2 with ⟨rfl,-⟩ | ⟨full,rfl⟩
   ·rw [nN]; exact i1
   ·rw [nN,hr,ZS,ja h3]; exact i1
  ·rw [ZQ,ZQ,i2]; rfl
theorem Ao:∀ l:List bC,mR (l.map fun s=>[V.str s]) = l
 | []=>rfl
 | s :: l=>by rw [ZQ,mR,Ao l]
theorem Sa.list {v:V} {l:List bC} (h:Sa v l):iI v = l:=by
 rcases h with ⟨rfl,rfl⟩ | ⟨full,rfl⟩
 ·rfl
 ·exact Ao l
theorem xO:∀ {es:List (V × V)},iQ es -> (es.map ks).Nodup -> gJ es = true
 | [],_,_=>rfl
 | e :: es,ha,hn=>by
  obtain ⟨k,hk⟩:=ha _ (IN ..)
  obtain ⟨a,v⟩:=e
  dsimp only at hk
  subst hk
  rw [ZQ,ay] at hn
  have hh:∀ {l:List (V × V)},iQ l -> k ∉ l.map ks -> gJ.hasKey k l = false:=by
   intro l
   induction l with
   | nil=>intro _ _; rfl
   | cons e l ih=>
    intro ha hk
    obtain ⟨q,hq⟩:=ha _ (IN ..)
    obtain ⟨b,u⟩:=e
    dsimp only at hq
    subst hq
    rw [ZQ,By,lg] at hk
    rw [gJ.hasKey,show Ax.seq q k = false from jV.2 (fun e=>hk.1 e.symm)]
    exact ih (fun e he=>ha e (OF _ he)) hk.2
  rw [gJ,hh (fun e he=>ha e (OF _ he)) hn.1]
  exact xO (fun e he=>ha e (OF _ he)) hn.2
structure NM (rs:List aC) (es:List (V × V)):Prop where
 ok:nN es = true
 keys:es.map ks = rs.map aC.name
 nodup:(es.map ks).Nodup
 nd:gJ es = true
 len:es.length = rs.length
 next:∀ r ∈ rs,∀ x,x ∈ bX es r.name ↔ Nx rs r x
theorem A7.mem {N:aC -> bC -> Prop}:∀ {es:List (V × V)} {rs:List aC},A7 N es rs -> ∀ r ∈ rs,∃ v l,(V.str r.name,v) ∈ es /\ Sa v l /\ ∀ x,x ∈ l ↔ N r x
 | _,_,.nil,r,hr=>by cases hr
 | (a,v) :: es,q :: rs,.cons h t,r,hr=>by
  rcases By.1 hr with rfl | hr
  ·obtain ⟨h1,l,h2,h3,h4⟩:=h
   dsimp only at h1
   subst h1
   exact ⟨v,l,IN ..,h2,h4⟩
  ·obtain ⟨v',l,h1,h2,h3⟩:=A7.mem (N:=N) t r hr
   exact ⟨v',l,OF _ h1,h2,h3⟩
theorem tQ:∀ {rs:List aC},(∀ (i j:Nat) (p q:aC),rs[i]? = some p -> rs[j]? = some q -> p.name = q.name -> i = j) -> (rs.map aC.name).Nodup
 | [],_=>List.Pairwise.nil
 | r :: rs,h=>by
  rw [ZQ,ay]
  refine ⟨fun hm=>?_,tQ fun i j p q hp hq e=>by
   have:=h (i + 1) (j + 1) p q hp hq e
   omega⟩
  obtain ⟨q,hq,e⟩:=ah.1 hm
  obtain ⟨j,hj⟩:=cr.1 hq
  have:=h 0 (j + 1) r q rfl hj e.symm
  omega
theorem Wz {rs:List aC} {es:List (V × V)} (hsh:Ev rs) (h:A7 (Nx rs) es rs):NM rs es:=by
 obtain ⟨h1,h2,h3⟩:=h.back
 have hn:(es.map ks).Nodup:=by rw [h2]; exact tQ hsh.nodup
 have hb:=wK h1
 refine ⟨h1,h2,hn,xO (fun e he=>(hb e he).1) hn,h3,fun r hr x=>?_⟩
 obtain ⟨v,l,hm,hv,hx⟩:=h.mem r hr
 rw [wB hb hn hm,hv.list]
 exact hx x
theorem AK {L:List (List (List Nat))}:∀ {l:List (List Nat)},iL L l = none ↔ ∀ a ∈ l,fN a L = none
 | []=>⟨fun _ a h=>(by cases h),fun _=>rfl⟩
 | a :: l=>by
  rw [iL]
  have ih:=AK (L:=L) (l:=l)
  cases hd:fN a L with
  | none=>
   dsimp only
   rw [ih]
   exact ⟨fun h x hx=>(By.1 hx).elim (fun e=>by rw [e]; exact hd) (h x),fun h x hx=>h x (OF _ hx)⟩
  | some d=>
   refine ⟨fun h=>?_,fun h=>?_⟩
   ·cases hb:iL L l with
    | none=>rw [hb] at h; cases h
    | some e=>
     rw [hb] at h
     dsimp only at h
     split at h <;> cases h
   ·have:=h a (IN ..)
    rw [hd] at this; cases this
theorem DK {es:List (V × V)} (hb:f_ es) {f:List Nat}:∀ (k:Nat) (x:List Nat),Dl es f k x -> (∀ j,j < k -> ¬ Dl es f j x) -> ∃ ys:List (List Nat),ys.length = k /\ ys.Nodup /\ (∀ y ∈ ys,y ∈ es.map ks) /\ ∀ y ∈ ys,∃ j,1 <= j /\ j <= k /\ Dl es f j y /\ ∀ i,i < j -> ¬ Dl es f i y
 | 0,x,_,_=>⟨[],rfl,List.Pairwise.nil,fun _ h=>(by cases h),fun _ h=>(by cases h)⟩
 | k + 1,x,.succ (nx:=nx) hx hr,hm=>by
  have hmin:∀ j,j < k -> ¬ Dl es f j nx:=fun j hj h=>hm (j + 1) (by omega) (.succ hx h)
  obtain ⟨ys,h1,h2,h3,h4⟩:=DK hb k nx hr hmin
  refine ⟨x :: ys,by rw [Z0,h1],ay.2 ⟨fun hxy=>?_,h2⟩,fun y hy=>?_,fun y hy=>?_⟩
  ·obtain ⟨j,j1,j2,j3,j4⟩:=h4 x hxy
   exact hm j (by omega) j3
  ·rcases By.1 hy with rfl | hy
   ·obtain ⟨v,hv,-⟩:=BZ hb hx
    exact ah.2 ⟨_,hv,rfl⟩
   ·exact h3 y hy
  ·rcases By.1 hy with rfl | hy
   ·exact ⟨k + 1,by omega,Z1 _,.succ hx hr,hm⟩
   ·obtain ⟨j,j1,j2,j3⟩:=h4 y hy
    exact ⟨j,j1,by omega,j3⟩
theorem Nc {es:List (V × V)} (hb:f_ es) (hn:(es.map ks).Nodup) {f x:List Nat} {k:Nat} (h:Dl es f k x):∃ d,sW es f x = some d:=by
 have:∃ d,Dl es f d x /\ ∀ j,j < d -> ¬ Dl es f j x:=by
  induction k using Nat.strongRecOn with
  | _ k ih=>
   by_cases hex:∃ j,j < k /\ Dl es f j x
   ·obtain ⟨j,hj,hr⟩:=hex
    exact ih j hj hr
   ·exact ⟨k,h,fun j hj hr=>hex ⟨j,hj,hr⟩⟩
 obtain ⟨d,hr,hm⟩:=this
 obtain ⟨ys,h1,h2,h3,-⟩:=DK hb d x hr hm
 have:=zI h2 h3
 rw [h1,ZS] at this
 exact ⟨d,(lA hb hn).2 ⟨this,hr,hm⟩⟩
theorem Hz {rs:List aC} {es:List (V × V)} (h:NM rs es) (f:bC):iL (dM es es.length [f]) (bX es f) ≠ none ↔ ∃ n,Dl es f (n + 1) f:=by
 have hb:=wK h.ok
 constructor
 ·intro hne
  have hne:∃ b,iL (dM es es.length [f]) (bX es f) = some b:=by
   cases he:iL (dM es es.length [f]) (bX es f) with
   | none=>exact absurd he hne
   | some b=>exact ⟨b,rfl⟩
  obtain ⟨b,hbo⟩:=hne
  obtain ⟨a,ha,hd⟩:=yL _ _ _ hbo
  exact ⟨b,.succ ha ((lA hb h.nodup).1 hd).2.1⟩
 ·rintro ⟨n,hr⟩ hno
  cases hr with
  | succ hx hr=>
   obtain ⟨d,hd⟩:=Nc hb h.nodup hr
   have:=AK.1 hno _ hx
   rw [show fN _ (dM es es.length [f]) = some d from hd] at this
   cases this
end
end
section
section
variable {E:Env} {Z:Sg} {K:V -> Sg -> Prop}
theorem gY {α:Type} {p:α -> Bool}:∀ {l:List α} {k:Nat},bQ p l = some k -> ∃ x,l[k]? = some x /\ p x = true
 | [],_,h=>by cases h
 | x :: l,k,h=>by
  rw [bQ] at h
  by_cases hx:p x = true
  ·rw [ZO hx] at h; cases h; exact ⟨x,rfl,hx⟩
  ·rw [ZM hx] at h
   cases hf:bQ p l with
   | none=>rw [hf] at h; cases h
   | some j=>
    rw [hf] at h
    cases h
    obtain ⟨y,h1,h2⟩:=gY hf
    exact ⟨y,h1,h2⟩
structure Good (rs:List aC):Prop where
 short:Ev rs
 known:∀ r ∈ rs,∀ n ∈ r.after,iF rs n = true
 len:rs.length <= 40
 rule:∀ r ∈ rs,bB r = 0
theorem J0 {s:bC} (h:bG s = true):s.length <= 40:=by
 unfold bG at h
 simp only [Z3,IT] at h
 exact h.1.2
theorem rY {rs:List aC} (h:gG rs = 0):Good rs:=by
 unfold gG at h
 cases hf:rs.find? (fun r=>decide (bB r ≠ 0)) with
 | some r=>
  rw [hf] at h
  have:=List.find?_some hf
  rw [IT] at this
  exact absurd h this
 | none=>
  rw [hf] at h
  dsimp only at h
  have hr:∀ r ∈ rs,bB r = 0:=fun r hr=>by
   have:=jc.1 hf r hr
   simpa using this
  by_cases h40:40 < rs.length
  ·rw [ZO h40] at h; cases h
  rw [ZM h40] at h
  cases hc:sH rs with
  | true=>rw [ZO hc] at h; cases h
  | false=>
  rw [ZM (by rw [hc]; simp)] at h
  cases hst:gM rs with
  | true=>rw [ZO hst] at h; cases h
  | false=>
  have hcl:∀ i r,rs[i]? = some r -> iF (rs.take i) r.name = false /\ r.outs.any (vF (rs.take i)) = false:=fun i r hi=>by
   have:=jh.1 hc i (j6.2 (AI.1 hi).1)
   rw [CN hi] at this
   simpa using this
  have hform:∀ r ∈ rs,bG r.name = true /\ r.after.all bG = true:=fun r hm=>by
   have:=hr r hm
   unfold bB at this
   by_cases hfo:kH r = false
   ·rw [ZO hfo] at this; cases this
   ·have hfo:kH r = true:=by simpa using hfo
    unfold kH at hfo
    simp only [Z3] at hfo
    exact ⟨hfo.1.1.1.1.1,hfo.1.2⟩
  have before:∀ (i j:Nat) (p:aC),j < i -> rs[j]? = some p -> p ∈ rs.take i:=fun i j p hji hj=>Z2 (by rw [br hji]; exact hj)
  refine ⟨⟨fun r hm=>J0 (hform r hm).1,fun r hm s hs=>J0 (bl.1 (hform r hm).2 s hs),?_,?_⟩,fun r hm n hn=>?_,by omega,hr⟩
  ·have key:∀ (i j:Nat) (p q:aC),j < i -> rs[i]? = some p -> rs[j]? = some q -> p.name ≠ q.name:=fun i j p q hji hp hq e=>by
    have:=(hcl i p hp).1
    rw [show iF (rs.take i) p.name = true from bp.2 ⟨q,before i j q hji hq,BY e.symm⟩] at this
    cases this
   intro i j p q hp hq e
   rcases fm i j with g | g | g
   ·exact absurd e.symm (key j i q p g hq hp)
   ·exact g
   ·exact absurd e (key i j p q g hp hq)
  ·have key:∀ (i j:Nat) (p q:aC) (f:bC),j < i -> rs[i]? = some p -> rs[j]? = some q -> f ∈ p.outs -> f ∈ q.outs -> False:=fun i j p q f hji hp hq h1 h2=>by
    have:=(hcl i p hp).2
    rw [show p.outs.any (vF (rs.take i)) = true from bp.2 ⟨f,h1,bp.2 ⟨q,before i j q hji hq,BY h2⟩⟩] at this
    cases this
   rintro f n m ⟨p,hp,h1,rfl⟩ ⟨q,hq,h2,rfl⟩
   obtain ⟨i,hi⟩:=cr.1 hp
   obtain ⟨j,hj⟩:=cr.1 hq
   rcases fm i j with g | g | g
   ·exact (key j i q p f g hj hi h2 h1).elim
   ·subst g
    rw [hi] at hj
    cases hj
    rfl
   ·exact (key i j p q f g hi hj h1 h2).elim
  ·have h1:=jh.1 hst r hm
   have h2:(r.after.any fun n=>decide (fT rs n = none)) = false:=by simpa using h1
   have h3:=jh.1 h2 n hn
   rw [tH] at h3
   simpa using h3
theorem B0 {rs:List aC} {es:List (V × V)} (g:Good rs) (h:NM rs es) {i:Nat} {r:aC} (hi:rs[i]? = some r) (x:bC):x ∈ bX es r.name ↔ ∃ k q,iE rs false i k = true /\ rs[k]? = some q /\ q.name = x:=by
 have hm:=Z2 hi
 rw [h.next r hm]
 have hd:∀ k,iE rs false i k = true ↔ (∃ f ∈ r.ins,fD rs f = some k) \/ ∃ n ∈ r.after,fT rs n = some k:=fun k=>by
  unfold iE uO
  rw [hi]
  simp only [je,er,bz,bp,IT]
 constructor
 ·rintro (hx | ⟨f,hf,hmk⟩)
  ·have hk:=g.known r hm x hx
   unfold iF at hk
   rw [<- cB] at hk
   obtain ⟨k,hk⟩:=ez.1 hk
   obtain ⟨q,h1,h2⟩:=gY hk
   exact ⟨k,q,(hd k).2 (.inr ⟨x,hx,hk⟩),h1,bf h2⟩
  ·obtain ⟨p,hp,hfp,rfl⟩:=hmk
   obtain ⟨k,hk⟩:=nF (p:=fun q:aC=>decide (f ∈ q.outs)) hp (BY hfp)
   obtain ⟨q,h1,h2⟩:=gY hk
   exact ⟨k,q,(hd k).2 (.inl ⟨f,hf,hk⟩),h1,g.short.jA f _ _ ⟨q,Z2 h1,bf h2,rfl⟩ ⟨p,hp,hfp,rfl⟩⟩
 ·rintro ⟨k,q,hk,hq,rfl⟩
  rcases (hd k).1 hk with ⟨f,hf,h1⟩ | ⟨n,hn,h1⟩
  ·obtain ⟨q',h2,h3⟩:=gY h1
   rw [hq] at h2
   cases h2
   exact .inr ⟨f,hf,q,Z2 hq,bf h3,rfl⟩
  ·obtain ⟨q',h2,h3⟩:=gY h1
   rw [hq] at h2
   cases h2
   rw [bf h3]
   exact .inl hn
theorem Ph {rs:List aC} {es:List (V × V)} (g:Good rs) (h:NM rs es) {i k:Nat} (hw:AxS.Way (iE rs false) i k):∀ {p q:aC},rs[i]? = some p -> rs[k]? = some q -> ∃ n,Dl es q.name (n + 1) p.name:=by
 induction hw with
 | one hm=>
  intro p q hp hq
  exact ⟨0,.succ ((B0 g h hp _).2 ⟨_,q,hm,hq,rfl⟩) .zero⟩
 | @cons i j k hm _ ih=>
  intro p q hp hq
  have hj:∃ s,rs[j]? = some s:=by
   unfold iE at hm
   rw [hp] at hm
   unfold uO at hm
   simp only [bz,Z3,bp,IT] at hm
   rcases hm with ⟨f,-,h1⟩ | ⟨-,n,-,h1⟩
   ·obtain ⟨s,h2,-⟩:=gY h1; exact ⟨s,h2⟩
   ·obtain ⟨s,h2,-⟩:=gY h1; exact ⟨s,h2⟩
  obtain ⟨s,hs⟩:=hj
  obtain ⟨n,hr⟩:=ih hs hq
  exact ⟨n + 1,.succ ((B0 g h hp _).2 ⟨j,s,hm,hs,rfl⟩) hr⟩
theorem Nb {es:List (V × V)} {f x:List Nat} (h:Dl es f 0 x):x = f:=by cases h; rfl
theorem JT {rs:List aC} {es:List (V × V)} (g:Good rs) (h:NM rs es) {k:Nat} {q:aC} (hq:rs[k]? = some q):∀ (n i:Nat) (p:aC),rs[i]? = some p -> Dl es q.name (n + 1) p.name -> AxS.Way (iE rs false) i k
 | n,i,p,hp,.succ (nx:=nx) hx hr=>by
  obtain ⟨j,s,hm,hs,rfl⟩:=(B0 g h hp _).1 hx
  cases n with
  | zero=>
   have e:s.name = q.name:=Nb hr
   have:=g.short.nodup j k s q hs hq e
   subst this
   exact .one hm
  | succ n=>exact .cons hm (JT g h hq n j s hs hr)
theorem Gl {rs:List aC} {es:List (V × V)} (g:Good rs) (h:NM rs es):Ring rs ↔ ∃ r ∈ rs,iL (dM es es.length [r.name]) (bX es r.name) ≠ none:=by
 constructor
 ·rintro ⟨i,hi,hw⟩
  have hr:rs[i]? = some rs[i]:=AT hi
  obtain ⟨n,hn⟩:=Ph g h hw hr hr
  exact ⟨_,Z2 hr,(Hz h _).2 ⟨n,hn⟩⟩
 ·rintro ⟨r,hr,hb⟩
  obtain ⟨i,hi⟩:=cr.1 hr
  obtain ⟨n,hn⟩:=(Hz h _).1 hb
  exact ⟨i,(AI.1 hi).1,JT g h hi n i r hi hn⟩
end
end
section
section
variable {E:Env} {Z:Sg} {K:V -> Sg -> Prop}
theorem L6 {rs:List aC} {es:List (V × V)} (h:NM rs es) (hl:rs.length <= 1000) (g:Bool) (f:bC):oH [.imp g es,.str f] = some (nO es f):=by
 show (match nN es,gJ es,Nat.ble es.length 1000000 with
  | true,true,true=>some (nO es f)
  | _,_,_=>none) = _
 rw [h.ok,h.nd,ja (by rw [h.len]; omega)]
theorem CT (es:List (V × V)) (f:bC):(iL (dM es es.length [f]) (bX es f) = none /\ nO es f = .aD) \/ (iL (dM es es.length [f]) (bX es f) ≠ none /\ ∃ l full,nO es f = .bS false ((f :: l).map fun s=>[V.str s]) full):=by
 unfold nO
 dsimp only
 cases iL (dM es es.length [f]) (bX es f) with
 | none=>exact .inl ⟨rfl,rfl⟩
 | some b=>exact .inr ⟨by simp,_,_,rfl⟩
theorem TO (h:bH E) {rs:List aC} {es:List (V × V)} (hn:NM rs es) (hl:rs.length <= 1000) (g:Bool) (f:bC):aB E 155 [.imp g es,.str f] Z K = K (nO es f) Z:=by
 have h5:cK [] E.ty false (nO es f) = some (nO es f):=by
  rcases CT es f with ⟨-,e⟩ | ⟨-,l,full,e⟩
  ·rw [e]; rfl
  ·rw [e]; exact DA rfl rfl
 have hi:Ax.bD (.imp g es) = true:=rfl
 exact sZ (args':=[.imp g es,.str f]) h.X1 h.Vr (by simp only [aW,dB,cN hi (cA hi)]) (L6 hn hl g f) h5
theorem Zw (h:bH E) {rs:List aC} {es:List (V × V)} {g:Bool} (hg:Good rs) (hn:NM rs es) {Y:Sg} {w:V} (ow:bA aO 9 Y w (rs.map aC.name)) (F:FT) (g5:F.get 5 = .imp g es) (g6:F.get 6 = w) :
  R E (cutAt [1,1,1,1,1] (aA Tryz.f116).code) [] ⟨48,F⟩ Y (mE E (aA Tryz.f116).results (fun v σ1=>match cK σ1 E.ty false v with
   | some v=>(v = .aD /\ ¬ Ring rs) \/ ∃ x l,jT aO v (x :: l) /\ Ring rs
   | none=>False)):=by
 have h40:=hg.len
 have hll:(rs.map aC.name).length <= 40:=by rw [ZS]; omega
 obtain ⟨τ3,ns,hS,hperm,ow3,-,-⟩:=Ea ow (by omega) (fun x hx=>by
  obtain ⟨r,hr,rfl⟩:=ah.1 hx
  have:=hg.short.names r hr
  omega)
 have ks:=dK (fun K=>show aB E 73 [w] Y K = K (.gB []) τ3 by rw [nT h.N7,hS]; rfl)
 have hnl:ns.length <= 40:=by rw [hperm.length_eq]; omega
 have lw:=nM h.a_ rfl ow3.ls
 simp only [aA,Tryz.f116,KP,↓reduceIte,reduceEqDiff,reduceLT,cutAt,g6,ks,lw]
 refine aV (fun i F Y=>Y = τ3 /\ F.get 5 = .imp g es /\ F.get 35 = w /\ F.get 36 = .int .i64 (ns.length:Int) /\ F.get 37 = .int .i64 (i:Int) /\ ∀ (j:Nat) (x:bC),j < i -> ns[j]? = some x -> iL (dM es es.length [x]) (bX es x) = none) ns.length ?_ ?_ ns.length 0 _ _ (by omega) ⟨rfl,(fE (by simp +decide only [GS,g5,Z5]) (fun j x hj=>by omega))⟩
 ·rintro i F Y hi ⟨rfl,g5,g35,g36,g37,hp⟩ next
  obtain ⟨x,hx⟩:∃ y,ns[i]? = some y:=⟨_,AT hi⟩
  obtain ⟨p,r,e4,e5,-,e6,-⟩:=HE (Z:=Y) h.a_ rfl h.dG rfl ow3.ls hx
  have e6:=e6 rfl (by decide)
  rw [show r = [.str x] from e5] at e6
  have e6:loadAt E Y 9 p = some (.str x):=e6
  have hlt:=dZ hi
  have hadd:=bY i (by omega)
  have kb:=fun (Z:Sg)=>dK (fun K=>TO (Z:=Z) (K:=K) h hn (by omega) g x)
  have hxm:x ∈ rs.map aC.name:=hperm.mem_iff.1 (Z2 hx)
  obtain ⟨q,hq,hqx⟩:=ah.1 hxm
  rw [aG]
  rcases CT es x with ⟨hb,e⟩ | ⟨hb,l,full,e⟩
  ·simp only [KP,↓reduceIte,reduceEqDiff,reduceLT,g5,g35,g36,g37,hlt,e4,e6,kb,e,CE h,hadd]
   refine next _ _ ⟨rfl,(fE (by simp +decide only [GS,g5,g35,g36,Z5]) (fun j y hj hy=>?_))⟩
   rcases ZZ j i with gg | gg
   ·exact hp j y gg hy
   ·obtain rfl:j = i:=by omega
    rw [hx] at hy; cases hy; exact hb
  ·have hsn:∀ Z,cK Z E.ty false (.bS false ((x :: l).map fun s=>[V.str s]) full) = some (.bS false ((x :: l).map fun s=>[V.str s]) full):=fun Z=>DA rfl rfl
   simp only [KP,↓reduceIte,reduceEqDiff,reduceLT,reduceCtorEq,g5,g35,g36,g37,hlt,e4,e6,kb,e,CD h,hsn]
   exact .inr ⟨x,l,.inr ⟨_,full,rfl,zO _⟩,(Gl hg hn).2 ⟨q,hq,by rw [hqx]; exact hb⟩⟩
 ·rintro F Y ⟨rfl,g5,g35,g36,g37,hp⟩
  have hlt:=d_ (ZT ns.length)
  rw [aG]
  simp only [KP,↓reduceIte,reduceLT,g36,g37,hlt]
  refine .inl ⟨rfl,fun hr=>?_⟩
  obtain ⟨r,hr,hb⟩:=(Gl hg hn).1 hr
  obtain ⟨j,hj⟩:=cr.1 (hperm.mem_iff.2 (ah.2 ⟨r,hr,rfl⟩))
  exact hb (hp j r.name (AI.1 hj).1 hj)
theorem ON (h:bH E) {a:V} {rs:List aC} (ha:LS eC 46 Z a rs) (hs:∀ x ∈ rs,Small x) (hp:gG rs = 0):aB E 116 [a] Z fun v σ'=>σ' = Z /\ ((v = .aD /\ ¬ Ring rs) \/ ∃ x l,jT aO v (x :: l) /\ Ring rs):=by
 obtain ⟨a',ea,ia⟩:=eX h ha
 have hg:=rY hp
 have h40:=hg.len
 rw [aH h.Yd h.VD h.Y1 h.Xi (args':=[a']) (by simp only [aW,ea]),aX (by kernel_rfl)]
 have la:=cV h ia
 have key:=fun es g hn Y w ow F g5 g6=>Zw (E:=E) (rs:=rs) (es:=es) (g:=g) (Y:=Y) (w:=w) h hg hn ow F g5 g6
 rw [show (aA Tryz.f116).code = .seq (cutAt [0] (aA Tryz.f116).code) (.seq (cutAt [1,0] (aA Tryz.f116).code) (.seq (cutAt [1,1,0] (aA Tryz.f116).code) (.seq (cutAt [1,1,1,0] (aA Tryz.f116).code) (.seq (cutAt [1,1,1,1,0] (aA Tryz.f116).code) (cutAt [1,1,1,1,1] (aA Tryz.f116).code))))) from rfl]
 generalize cutAt [1,1,1,1,1] (aA Tryz.f116).code = C at key ⊢
 simp only [aA,Tryz.f116,KP,↓reduceIte,reduceLT,reduceCtorEq,cutAt]
 refine aP (KB h (ia.ls _ 46) hs (by omega)) ?_
 rintro v σ' ⟨rfl,nm,rfl⟩
 rw [hp]
 simp only [KP,↓reduceIte,reduceEqDiff,reduceLT,reduceCtorEq]
 refine aP (Rp h (ia.ls _ 46) hs hg.short (by omega)) ?_
 rintro v σ' ⟨rfl,es,rfl,hv⟩
 have hn:=Wz hg.short hv
 simp only [KP,↓reduceIte,reduceLT,reduceCtorEq,la]
 refine aV (fun i F Y=>F.get 5 = .imp false es /\ F.get 21 = a' /\ F.get 22 = .int .i64 (rs.length:Int) /\ F.get 23 = .int .i64 (i:Int) /\ ∃ w,F.get 6 = w /\ bA aO 9 Y w ((rs.take i).map aC.name)) rs.length ?_ ?_ rs.length 0 _ _ (by omega) (fE (by simp +decide only [GS,Z5]) ⟨.aD,(by simp +decide only [GS]),.inl ⟨rfl,rfl⟩⟩)
 ·rintro i F Y hi ⟨g5,g21,g22,g23,w,g6,ow⟩ next
  obtain ⟨r,hr⟩:∃ y,rs[i]? = some y:=⟨_,AT hi⟩
  obtain ⟨g,p1,p2,p3,p4,e1,i1,i2,i3,i4⟩:=fF h ia hr
  have o1:=aM i1.bD
  have o2:=aM i2.bD
  have o3:=aM i3.bD
  have o4:=aM i4.bD
  have hlt:=dZ hi
  have hadd:=bY i (by omega)
  have s1:(Y ++ [O.cells 46 [.str r.name,p1,p2,p3,p4] true])[Y.length]? = some (O.cells 46 [.str r.name,p1,p2,p3,p4] true):=aK
  have ow1:=ow.app [O.cells 46 [.str r.name,p1,p2,p3,p4] true]
  rw [aG]
  simp only [KP,Ax.loadAt,Ax.storeAt,↓reduceIte,reduceEqDiff,reduceLT,reduceLeDiff,reduceAdd,reduceMul,reduceCtorEq,h.dG,h.a_,h.bK,g6,g21,g22,g23,hlt,e1,o1,o2,o3,o4,aK,bV]
  generalize Y ++ [O.cells 46 [.str r.name,p1,p2,p3,p4] true] = τ1 at *
  generalize Y.length = y at *
  obtain ⟨w',τ',hap,ow',-,-,-⟩:=gT (ats:=#[24,24]) (m:=[r.name]) (new:=[[.str r.name]]) h.a_ rfl h.dG rfl (by decide) (jL h) rfl (ow1.app [.cells 9 [.str r.name] true]) (mN rfl) (.one rfl) (dD (b:=1000) (by decide) (by rw [ZS,ZW]; simp only [Z0,ZN]; omega))
  simp only [KP,↓reduceIte,reduceEqDiff,reduceLT,g23,kP,hap,hadd]
  refine next _ _ (fE (by simp +decide only [GS,g5,g21,g22,Z5]) ⟨w',(by simp +decide only [GS]),?_⟩)
  rw [bh,hr,cj]
  exact ow'
 ·rintro F Y ⟨g5,g21,g22,g23,w,g6,ow⟩
  rw [Z6 (Z1 _)] at ow
  have hlt:=d_ (ZT rs.length)
  rw [aG]
  simp only [KP,↓reduceIte,reduceLT,g22,g23,hlt]
  exact key es false hn _ w ow _ (by simp +decide only [GS,g5]) (by simp +decide only [GS,g6])
theorem Uz (h:bH E) {a:V} {rs:List aC} (ha:LS eC 46 Z a rs) (hs:∀ x ∈ rs,Small x) (hl:rs.length <= 4294967296):aB E 61 [a] Z fun v σ'=>σ' = Z /\ ∃ e nm,v = .gB [.int .i64 e,.str nm] /\ HQ rs e:=by
 obtain ⟨a',ea,ia⟩:=eX h ha
 rw [aH h.hs61 h.sp61 h.fn61 h.md61 (args':=[a']) (by simp only [aW,ea]),aX (by kernel_rfl)]
 have d6:=h.Zo
 simp only [aA,Tryz.f61,cutAt,Z9] at d6
 simp only [aA,Tryz.f61,KP,↓reduceIte,reduceLT,reduceCtorEq,lB]
 refine aP (KB h (ia.ls _ 46) hs hl) ?_
 rintro v σ' ⟨rfl,nm,rfl⟩
 by_cases hp:gG rs = 0
 case neg=>
  have q:=AS hp
  simp only [KP,↓reduceIte,reduceEqDiff,reduceLT,q]
  exact ⟨gG rs,nm,rfl,.inl ⟨hp,rfl⟩⟩
 have q:=BY hp
 simp only [KP,↓reduceIte,reduceEqDiff,reduceLT,reduceCtorEq,q]
 refine aP (ON h (ia.ls _ 46) hs hp) ?_
 rintro v σ' ⟨rfl,hv⟩
 rcases hv with ⟨rfl,hr⟩ | ⟨x,l,iv,hr⟩
 ·simp only [KP,↓reduceIte,reduceEqDiff,reduceLT,lB,CE h]
  exact ⟨0,[],rfl,.inr ⟨hp,.inr ⟨hr,rfl⟩⟩⟩
 ·obtain ⟨g,e1⟩:=gI h iv.is (i:=0) (x:=x) rfl
  have e1:indexAddr E 24 v (.int .i64 0) = some (.cW g [.str x]):=e1
  have en:nY E 24 true v .aD = some false:=by
   rcases iv with ⟨-,e⟩ | ⟨rs',full,rfl,-⟩
   ·cases e
   ·exact CD h
  simp only [KP,Ax.loadAt,↓reduceIte,reduceEqDiff,reduceLT,h.dG,en,e1,aU d6,bM]
  exact ⟨3,x,rfl,.inr ⟨hp,.inl ⟨hr,rfl⟩⟩⟩
end
end
structure OrE (E:Env):Prop where
 hs23:E.hspec 23 = none
 Py:E.spec 23 = none
 fn23:E.fn 23 = some (aA Tryz.f23)
 md23:E.mode 23 = .eW
 hs75:E.hspec 75 = none
 sp75:E.spec 75 = none
 fn75:E.fn 75 = some (aA Tryz.f75)
 md75:E.mode 75 = .eW
 hs77:E.hspec 77 = none
 sp77:E.spec 77 = none
 fn77:E.fn 77 = some (aA Tryz.f77)
 md77:E.mode 77 = .eW
 hs25:E.hspec 25 = none
 Px:E.spec 25 = none
 fn25:E.fn 25 = some (aA Tryz.f25)
 md25:E.mode 25 = .eW
 hs79:E.hspec 79 = none
 sp79:E.spec 79 = none
 fn79:E.fn 79 = some (aA Tryz.f79)
 md79:E.mode 79 = .eW
 d23_15:aL E (cutAt [1,1,1,1,1,1,1,0,2,2,1,2,1,0] (aA Tryz.f23).code) = true
end Go.Proofs.YtmhchflckonklaaGreatDoor
end
