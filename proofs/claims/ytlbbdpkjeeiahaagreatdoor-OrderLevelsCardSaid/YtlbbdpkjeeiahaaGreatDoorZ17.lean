/- Part 17 of the proof. -/
import Derived.Test.YtlbbdpkjeeiahaaGreatDoorZ16
import Derived.Test.YtlbbdpkjeeiahaaGreatDoorZ13
set_option maxHeartbeats 8000000
set_option linter.unusedVariables false
set_option maxRecDepth 10000
open Nat (reduceEqDiff reduceLT reduceAdd reduceLeDiff reduceMul)
open List (mem_of_getElem? length_take length_nil length_append length_cons drop_zero take_of_length_le getElem?_set_ne take_add_one length_map getElem?_set_self mem_cons mem_singleton mem_cons_self mem_cons_of_mem mem_range append_assoc map_cons mem_map length_set mem_append mem_iff_getElem? nodup_cons)
open Int (reduceNeg)
section
namespace Go.Proofs.YtlbbdpkjeeiahaaGreatDoor
open Go Go.Ax Go.AxS
section
section
variable {E:Env} {Z:Sg} {K:V -> Sg -> Prop}
theorem SS (h:bM E) {c:Nat}:aB E 253 [.int .i32 (c:Int)] Z K = K (.bool (sign c)) Z:=by
 refine aB.of ?_
 rw [aH h.VO h.Tx h.WB h.U1 (args':=[.int .i32 (c:Int)]) (by simp only [aX,show aZ Z E.ty true (.int .i32 (c:Int)) = some (.int .i32 (c:Int)) from rfl]),bD (by kernel_rfl)]
 have hcut:(0 <= c /\ c <= 44) \/ (45 <= c /\ c <= 45) \/ (46 <= c /\ c <= 46) \/ (47 <= c /\ c <= 47) \/ (48 <= c /\ c <= 57) \/ (58 <= c /\ c <= 64) \/ (65 <= c /\ c <= 90) \/ (91 <= c /\ c <= 94) \/ (95 <= c /\ c <= 95) \/ (96 <= c /\ c <= 96) \/ (97 <= c /\ c <= 122) \/ (123 <= c /\ 123 <= c):=by omega
 rcases hcut with ⟨h1,h2⟩ | ⟨h1,h2⟩ | ⟨h1,h2⟩ | ⟨h1,h2⟩ | ⟨h1,h2⟩ | ⟨h1,h2⟩ | ⟨h1,h2⟩ | ⟨h1,h2⟩ | ⟨h1,h2⟩ | ⟨h1,h2⟩ | ⟨h1,h2⟩ | ⟨h1,h2⟩
 ·rw [show sign c = false from by unfold sign; simp; omega]
  have q0:decide ((97:Int) <= (c:Int)) = false:=decide_eq_false (by omega)
  have q2:decide ((65:Int) <= (c:Int)) = false:=decide_eq_false (by omega)
  have q4:decide ((48:Int) <= (c:Int)) = false:=decide_eq_false (by omega)
  have q6:decide ((c:Int) = 46) = false:=decide_eq_false (by omega)
  have q7:decide ((c:Int) = 95) = false:=decide_eq_false (by omega)
  have q8:decide ((c:Int) = 45) = false:=decide_eq_false (by omega)
  simp only [aA,Tryz.f253,KP,↓reduceIte,reduceEqDiff,reduceLT,reduceCtorEq,q0,q2,q4,q6,q7,q8]
  exact rfl
 ·rw [show sign c = true from by unfold sign; simp; omega]
  have q0:decide ((97:Int) <= (c:Int)) = false:=decide_eq_false (by omega)
  have q2:decide ((65:Int) <= (c:Int)) = false:=decide_eq_false (by omega)
  have q4:decide ((48:Int) <= (c:Int)) = false:=decide_eq_false (by omega)
  have q6:decide ((c:Int) = 46) = false:=decide_eq_false (by omega)
  have q7:decide ((c:Int) = 95) = false:=decide_eq_false (by omega)
  have q8:decide ((c:Int) = 45) = true:=decide_eq_true (by omega)
  simp only [aA,Tryz.f253,KP,↓reduceIte,reduceEqDiff,reduceLT,reduceCtorEq,q0,q2,q4,q6,q7,q8]
  exact rfl
 ·rw [show sign c = true from by unfold sign; simp; omega]
  have q0:decide ((97:Int) <= (c:Int)) = false:=decide_eq_false (by omega)
  have q2:decide ((65:Int) <= (c:Int)) = false:=decide_eq_false (by omega)
  have q4:decide ((48:Int) <= (c:Int)) = false:=decide_eq_false (by omega)
  have q6:decide ((c:Int) = 46) = true:=decide_eq_true (by omega)
  simp only [aA,Tryz.f253,KP,↓reduceIte,reduceEqDiff,reduceLT,reduceCtorEq,q0,q2,q4,q6]
  exact rfl
 ·rw [show sign c = false from by unfold sign; simp; omega]
  have q0:decide ((97:Int) <= (c:Int)) = false:=decide_eq_false (by omega)
  have q2:decide ((65:Int) <= (c:Int)) = false:=decide_eq_false (by omega)
  have q4:decide ((48:Int) <= (c:Int)) = false:=decide_eq_false (by omega)
  have q6:decide ((c:Int) = 46) = false:=decide_eq_false (by omega)
  have q7:decide ((c:Int) = 95) = false:=decide_eq_false (by omega)
  have q8:decide ((c:Int) = 45) = false:=decide_eq_false (by omega)
  simp only [aA,Tryz.f253,KP,↓reduceIte,reduceEqDiff,reduceLT,reduceCtorEq,q0,q2,q4,q6,q7,q8]
  exact rfl
 ·rw [show sign c = true from by unfold sign; simp; omega]
  have q0:decide ((97:Int) <= (c:Int)) = false:=decide_eq_false (by omega)
  have q2:decide ((65:Int) <= (c:Int)) = false:=decide_eq_false (by omega)
  have q4:decide ((48:Int) <= (c:Int)) = true:=decide_eq_true (by omega)
  have q5:decide ((c:Int) <= 57) = true:=decide_eq_true (by omega)
  simp only [aA,Tryz.f253,KP,↓reduceIte,reduceEqDiff,reduceLT,reduceCtorEq,q0,q2,q4,q5]
  exact rfl
 ·rw [show sign c = false from by unfold sign; simp; omega]
  have q0:decide ((97:Int) <= (c:Int)) = false:=decide_eq_false (by omega)
  have q2:decide ((65:Int) <= (c:Int)) = false:=decide_eq_false (by omega)
  have q4:decide ((48:Int) <= (c:Int)) = true:=decide_eq_true (by omega)
  have q5:decide ((c:Int) <= 57) = false:=decide_eq_false (by omega)
  have q6:decide ((c:Int) = 46) = false:=decide_eq_false (by omega)
  have q7:decide ((c:Int) = 95) = false:=decide_eq_false (by omega)
  have q8:decide ((c:Int) = 45) = false:=decide_eq_false (by omega)
  simp only [aA,Tryz.f253,KP,↓reduceIte,reduceEqDiff,reduceLT,reduceCtorEq,q0,q2,q4,q5,q6,q7,q8]
  exact rfl
 ·rw [show sign c = true from by unfold sign; simp; omega]
  have q0:decide ((97:Int) <= (c:Int)) = false:=decide_eq_false (by omega)
  have q2:decide ((65:Int) <= (c:Int)) = true:=decide_eq_true (by omega)
  have q3:decide ((c:Int) <= 90) = true:=decide_eq_true (by omega)
  simp only [aA,Tryz.f253,KP,↓reduceIte,reduceEqDiff,reduceLT,reduceCtorEq,q0,q2,q3]
  exact rfl
 ·rw [show sign c = false from by unfold sign; simp; omega]
  have q0:decide ((97:Int) <= (c:Int)) = false:=decide_eq_false (by omega)
  have q2:decide ((65:Int) <= (c:Int)) = true:=decide_eq_true (by omega)
  have q3:decide ((c:Int) <= 90) = false:=decide_eq_false (by omega)
  have q4:decide ((48:Int) <= (c:Int)) = true:=decide_eq_true (by omega)
  have q5:decide ((c:Int) <= 57) = false:=decide_eq_false (by omega)
  have q6:decide ((c:Int) = 46) = false:=decide_eq_false (by omega)
  have q7:decide ((c:Int) = 95) = false:=decide_eq_false (by omega)
  have q8:decide ((c:Int) = 45) = false:=decide_eq_false (by omega)
  simp only [aA,Tryz.f253,KP,↓reduceIte,reduceEqDiff,reduceLT,reduceCtorEq,q0,q2,q3,q4,q5,q6,q7,q8]
  exact rfl
 ·rw [show sign c = true from by unfold sign; simp; omega]
  have q0:decide ((97:Int) <= (c:Int)) = false:=decide_eq_false (by omega)
  have q2:decide ((65:Int) <= (c:Int)) = true:=decide_eq_true (by omega)
  have q3:decide ((c:Int) <= 90) = false:=decide_eq_false (by omega)
  have q4:decide ((48:Int) <= (c:Int)) = true:=decide_eq_true (by omega)
  have q5:decide ((c:Int) <= 57) = false:=decide_eq_false (by omega)
  have q6:decide ((c:Int) = 46) = false:=decide_eq_false (by omega)
  have q7:decide ((c:Int) = 95) = true:=decide_eq_true (by omega)
  simp only [aA,Tryz.f253,KP,↓reduceIte,reduceEqDiff,reduceLT,reduceCtorEq,q0,q2,q3,q4,q5,q6,q7]
  exact rfl
 ·rw [show sign c = false from by unfold sign; simp; omega]
  have q0:decide ((97:Int) <= (c:Int)) = false:=decide_eq_false (by omega)
  have q2:decide ((65:Int) <= (c:Int)) = true:=decide_eq_true (by omega)
  have q3:decide ((c:Int) <= 90) = false:=decide_eq_false (by omega)
  have q4:decide ((48:Int) <= (c:Int)) = true:=decide_eq_true (by omega)
  have q5:decide ((c:Int) <= 57) = false:=decide_eq_false (by omega)
  have q6:decide ((c:Int) = 46) = false:=decide_eq_false (by omega)
  have q7:decide ((c:Int) = 95) = false:=decide_eq_false (by omega)
  have q8:decide ((c:Int) = 45) = false:=decide_eq_false (by omega)
  simp only [aA,Tryz.f253,KP,↓reduceIte,reduceEqDiff,reduceLT,reduceCtorEq,q0,q2,q3,q4,q5,q6,q7,q8]
  exact rfl
 ·rw [show sign c = true from by unfold sign; simp; omega]
  have q0:decide ((97:Int) <= (c:Int)) = true:=decide_eq_true (by omega)
  have q1:decide ((c:Int) <= 122) = true:=decide_eq_true (by omega)
  simp only [aA,Tryz.f253,KP,↓reduceIte,reduceEqDiff,reduceLT,reduceCtorEq,q0,q1]
  exact rfl
 ·rw [show sign c = false from by unfold sign; simp; omega]
  have q0:decide ((97:Int) <= (c:Int)) = true:=decide_eq_true (by omega)
  have q1:decide ((c:Int) <= 122) = false:=decide_eq_false (by omega)
  have q2:decide ((65:Int) <= (c:Int)) = true:=decide_eq_true (by omega)
  have q3:decide ((c:Int) <= 90) = false:=decide_eq_false (by omega)
  have q4:decide ((48:Int) <= (c:Int)) = true:=decide_eq_true (by omega)
  have q5:decide ((c:Int) <= 57) = false:=decide_eq_false (by omega)
  have q6:decide ((c:Int) = 46) = false:=decide_eq_false (by omega)
  have q7:decide ((c:Int) = 95) = false:=decide_eq_false (by omega)
  have q8:decide ((c:Int) = 45) = false:=decide_eq_false (by omega)
  simp only [aA,Tryz.f253,KP,↓reduceIte,reduceEqDiff,reduceLT,reduceCtorEq,q0,q1,q2,q3,q4,q5,q6,q7,q8]
  exact rfl
theorem R9 (h:bM E) {c:Nat}:KC E 253 [.int .i32 (c:Int)] Z (.bool (sign c)) Z:=dA fun _=>SS h
theorem La (h:bM E) {c:Nat}:aB E 252 [.int .i32 (c:Int)] Z K = K (.bool (!sign c)) Z:=by
 refine aB.of ?_
 rw [aH h.VP h.Tz h.WC h.U2 (args':=[.int .i32 (c:Int)]) (by simp only [aX,show aZ Z E.ty true (.int .i32 (c:Int)) = some (.int .i32 (c:Int)) from rfl]),bD (by kernel_rfl)]
 have ks:=fun (Y:Sg)=>R9 (Z:=Y) h (c:=c)
 simp only [aA,Tryz.f252,KP,↓reduceIte,reduceLT,reduceCtorEq,ks]
 exact rfl
theorem byte_at {s:aM} {pos ch:Nat} (hc:s[pos]? = some ch) (h:ch < 256):((qM s).get! pos).toNat = ch:=by
 show ((s.map UInt8.ofNat).toArray[pos]!).toNat = ch
 have e:(s.map UInt8.ofNat).toArray[pos]? = some (UInt8.ofNat ch):=by simp [hc]
 rw [getElem!_def,e]
 simp only [UInt8.toNat_ofNat']
 omega
theorem OM {s:aM} {pos ch:Nat} (hc:s[pos]? = some ch) (h1:¬ ch < 128) (h2:ch < 256):128 <= (Utf8.decode (qM s) pos).1:=by
 unfold Utf8.decode
 simp only [Nat.add_zero,byte_at hc h2,h1,if_false]
 repeat' split
 all_goals first
  | (simp only [Utf8.runeError]; omega)
  | (simp only [Bool.and_eq_true,beq_iff_eq,decide_eq_true_eq,ge_iff_le] at *; omega)
theorem FK {c:Nat} (h:128 <= c):sign c = false:=by
 unfold sign; simp; omega
theorem HX (h:bM E):sA E 4 false (.bool true) (.bool true) = some true:=by unfold sA; rw [h.GY]; rfl
theorem Sv (h:bM E):sA E 4 false (.bool false) (.bool true) = some false:=by unfold sA; rw [h.GY]; rfl
theorem b_xF (h:bM E) {s:aM} {k:Nat} {P:Nat -> Bool} (hsm:s.length <= 4294967296) (hP:∀ (Z:Sg) (r:Nat),aB E k [.int .i32 (r:Int)] Z fun u Y=>Y = Z /\ u = .bool (P r)) (hhi:∀ r,128 <= r -> P r = true):aB E 308 [.str s,.fn k [] [],.bool true] Z fun v Y=>Y = Z /\ ∃ n:Int,v = .int .i64 n /\ decide (0 <= n) = s.any P:=by
 have ef:=qQ (E:=E) (k:=k) (caps:=[]) (fun _ h=>by cases h) Z
 rw [aH h.VM h.Tv h.Wz h.UZ (args':=[.str s,.fn k [] [],.bool true]) (by simp only [aX,cL,ef,show aZ Z E.ty true (.bool true) = some (.bool true) from rfl]),bD (by kernel_rfl)]
 simp only [aA,Tryz.f308,KP,↓reduceIte,reduceLT,reduceAdd,reduceCtorEq,reduceNeg,h.cK,oA]
 refine aQ (fun i F Y=>Y = [.GZ s i] /\ F.get 1 = .fn k [] [] /\ F.get 2 = .bool true /\ F.get 10 = .ref 0 0 /\ ∀ j y,j < i -> s[j]? = some y -> P y = false) s.length ?_ ?_ s.length 0 _ _ (by omega) ⟨rfl,(iZ (by simp +decide only [GS,and_self]) (fun j y hj=>by omega))⟩
 ·rintro i F Y hi ⟨rfl,g1,g2,g10,hp⟩ next
  obtain ⟨x,hx⟩:∃ x,s[i]? = some x:=⟨_,List.getElem?_eq_getElem hi⟩
  rw [aG]
  by_cases h128:x < 128
  ·simp only [KP,↓reduceIte,reduceEqDiff,reduceLT,reduceNeg,g1,g10,uN,hx,h128]
   refine aU (hP _ x) ?_
   rintro u Y ⟨rfl,rfl⟩
   by_cases hxs:P x = true
   ·simp only [KP,↓reduceIte,reduceEqDiff,reduceLT,reduceNeg,g2,hxs,HX h]
    exact ⟨_,rfl,by rw [show s.any P = true from List.any_eq_true.2 ⟨x,mem_of_getElem? hx,hxs⟩]; exact decide_eq_true (by omega)⟩
   ·have hxs:P x = false:=by simpa using hxs
    simp only [KP,↓reduceIte,reduceEqDiff,reduceLT,reduceNeg,g2,hxs,Sv h]
    refine next _ _ ⟨rfl,(iZ (by simp +decide only [GS,g1,g2,g10,and_self]) (fun j y hj hy=>?_))⟩
    rcases Nat.lt_or_ge j i with g | g
    ·exact hp j y g hy
    ·obtain rfl:j = i:=by omega
     rw [hx] at hy; cases hy; exact hxs
  have hany:s.any P = true:=List.any_eq_true.2 ⟨x,mem_of_getElem? hx,hhi x (by omega)⟩
  by_cases h256:x < 256
  ·simp only [KP,↓reduceIte,reduceEqDiff,reduceLT,reduceNeg,g1,g10,uN,hx,h128,h256]
   refine aU (hP _ (Utf8.decode (qM s) i).1) ?_
   rintro u Y ⟨rfl,rfl⟩
   have hxs:=hhi _ (OM hx h128 h256)
   simp only [KP,↓reduceIte,reduceEqDiff,reduceLT,reduceNeg,g2,hxs,HX h]
   exact ⟨_,rfl,by rw [hany]; exact decide_eq_true (by omega)⟩
  ·simp only [KP,↓reduceIte,reduceEqDiff,reduceLT,reduceNeg,g1,g10,uN,hx,h128,h256]
   refine aU (hP _ 65533) ?_
   rintro u Y ⟨rfl,rfl⟩
   have hxs:=hhi _ (show 128 <= 65533 by omega)
   simp only [KP,↓reduceIte,reduceEqDiff,reduceLT,reduceNeg,g2,hxs,HX h]
   exact ⟨_,rfl,by rw [hany]; exact decide_eq_true (by omega)⟩
 ·rintro F Y ⟨rfl,g1,g2,g10,hp⟩
  have hx:s[s.length]? = none:=List.getElem?_eq_none (Nat.le_refl _)
  rw [aG]
  simp only [KP,↓reduceIte,reduceLT,reduceNeg,g10,uN,hx]
  refine ⟨-1,rfl,?_⟩
  rw [show s.any P = false from List.any_eq_false.2 fun x hx=>by
   obtain ⟨j,hj,e⟩:=List.getElem_of_mem hx
   rw [hp j x hj (by rw [List.getElem?_eq_getElem hj,e])]; simp]
  rfl
theorem SY (h:bM E) {s:aM} {k:Nat} {P:Nat -> Bool} (hsm:s.length <= 4294967296) (hP:∀ (Z:Sg) (r:Nat),aB E k [.int .i32 (r:Int)] Z fun u Y=>Y = Z /\ u = .bool (P r)) (hhi:∀ r,128 <= r -> P r = true):aB E 287 [.str s,.fn k [] []] Z fun v Y=>Y = Z /\ ∃ n:Int,v = .int .i64 n /\ decide (0 <= n) = s.any P:=by
 have ef:=qQ (E:=E) (k:=k) (caps:=[]) (fun _ h=>by cases h) Z
 rw [aH h.VN h.Tw h.WA h.U0 (args':=[.str s,.fn k [] []]) (by simp only [aX,cL,ef]),bD (by kernel_rfl)]
 simp only [aA,Tryz.f287,KP,↓reduceIte,reduceEqDiff,reduceLT,reduceAdd,reduceCtorEq]
 refine aU (b_xF h hsm hP hhi) ?_
 rintro v Y ⟨rfl,n,rfl,hn⟩
 simp only [KP,↓reduceIte,reduceLT]
 exact ⟨n,rfl,hn⟩
theorem Qz (h:bM E) {s:aM} {k:Nat} {P:Nat -> Bool} (hsm:s.length <= 4294967296) (hP:∀ (Z:Sg) (r:Nat),aB E k [.int .i32 (r:Int)] Z fun u Y=>Y = Z /\ u = .bool (P r)) (hhi:∀ r,128 <= r -> P r = true):aB E 251 [.str s,.fn k [] []] Z K = K (.bool (s.any P)) Z:=by
 refine aB.of ?_
 have ef:=qQ (E:=E) (k:=k) (caps:=[]) (fun _ h=>by cases h) Z
 rw [aH h.VQ h.TA h.WD h.U3 (args':=[.str s,.fn k [] []]) (by simp only [aX,cL,ef]),bD (by kernel_rfl)]
 simp only [aA,Tryz.f251,KP,↓reduceIte,reduceEqDiff,reduceLT,reduceAdd,reduceCtorEq]
 refine aU (SY h hsm hP hhi) ?_
 rintro v Y ⟨rfl,n,rfl,hn⟩
 simp only [KP,↓reduceIte,reduceLT,hn]
 exact rfl
theorem XE (h:bM E) {p:aM} (hsm:p.length <= 4294967296):aB E 224 [.str p] Z K = K (.bool (!qT p)) Z:=by
 refine aB.of ?_
 rw [aH h.VT h.TC h.WG h.U5 (args':=[.str p]) (by simp only [aX,cL]),bD (by kernel_rfl)]
 by_cases h1:p = []
 ·have q1:=gX h1
  simp only [aA,Tryz.f224,KP,↓reduceIte,reduceEqDiff,reduceLT,reduceCtorEq,kP,q1]
  rw [yM (.inl h1)]
  exact rfl
 have q1:=gB h1
 by_cases h2:p = [46]
 ·have q2:=gX h2
  simp only [aA,Tryz.f224,KP,↓reduceIte,reduceEqDiff,reduceLT,reduceCtorEq,kP,KX,q1,q2]
  rw [yM (.inr (.inl h2))]
  exact rfl
 have q2:=gB h2
 by_cases h3:p = [46,46]
 ·have q3:=gX h3
  simp only [aA,Tryz.f224,KP,↓reduceIte,reduceEqDiff,reduceLT,reduceCtorEq,kP,KX,Qk,q1,q2,q3]
  rw [yM (.inr (.inr h3))]
  exact rfl
 have q3:=gB h3
 have kc:=fun (Y:Sg)=>dA (fun K=>Qz (Z:=Y) (K:=K) (s:=p) (k:=252) (P:=fun c=>!sign c) h hsm (fun Y r=>by rw [La h]; exact ⟨rfl,rfl⟩) (fun r hr=>by rw [FK hr]; rfl))
 simp only [aA,Tryz.f224,KP,↓reduceIte,reduceEqDiff,reduceLT,reduceCtorEq,kP,KX,Qk,q1,q2,q3,kc]
 rw [HA h1 h2 h3,List.not_all_eq_any_not]
 exact rfl
theorem yW:∀ l:List aM,eN aJ.P (l.map fun p=>[V.str p]) l
 | []=>.nil
 | _ :: l=>.cons rfl (yW l)
theorem NN (h:bM E) {s:aM} (hsm:s.length <= 1000000000):aB E 223 [.str s] Z fun v Y=>Y = Z /\ jW aJ v (cE 47 s):=by
 rw [aH h.VU h.TD h.WH h.U6 (args':=[.str s]) (by simp only [aX,cL]),bD (by kernel_rfl)]
 have hs:kT [.str s,.str [47]] = some (.bQ false ((cE 47 s).map fun p=>[V.str p]) true):=by
  unfold kT
  exact if_pos (by omega)
 have iv:jW aJ (.bQ false ((cE 47 s).map fun p=>[V.str p]) true) (cE 47 s):=.inr ⟨_,_,rfl,yW _⟩
 have h5:∀ Z,cT Z E.ty false (.bQ false ((cE 47 s).map fun p=>[V.str p]) true) = some (.bQ false ((cE 47 s).map fun p=>[V.str p]) true):=fun Z=>(show cT Z E.ty false (.bQ false ((cE 47 s).map fun p=>[V.str p]) true) = aZ Z E.ty false (.bQ false ((cE 47 s).map fun p=>[V.str p]) true) from rfl).trans (eZ iv.is.bB iv.tag)
 have kc:=fun (Y:Sg)=>dA (fun K=>sE (Z:=Y) (K:=K) (args:=[.str s,.str [47]]) (args':=[.str s,.str [47]]) h.V6 h.TN (by simp only [aX,cL]) hs (h5 []))
 have hb:Ax.bytes ⟨#[47]⟩ = [47]:=rfl
 simp only [aA,Tryz.f223,KP,↓reduceIte,reduceLT,reduceCtorEq,kc,h5,hb]
 exact iv
theorem Er {s:aM} (h:¬ s.length <= 40):bL s = false:=by unfold bL; rw [decide_eq_false h]; simp
theorem oV {s:aM} (h:nW s = true):bL s = false:=by unfold bL; rw [h]; rfl
theorem XF (h:bM E) {s:aM}:aB E 186 [.str s] Z K = K (.bool (bL s)) Z:=by
 refine aB.of ?_
 rw [aH h.V3 h.TK h.WO h.Vc (args':=[.str s]) (by simp only [aX,cL]),bD (by kernel_rfl)]
 by_cases w0:s = [114,117,108,101]
 ·have e0:=gX w0
  simp only [aA,Tryz.f186,KP,↓reduceIte,reduceLT,reduceCtorEq,Cl,e0]
  rw [oV (by rw [w0]; rfl)]
  exact rfl
 have e0:=gB w0
 by_cases w1:s = [105,110]
 ·have e1:=gX w1
  simp only [aA,Tryz.f186,KP,↓reduceIte,reduceEqDiff,reduceLT,reduceCtorEq,Cl,EK,e0,e1]
  rw [oV (by rw [w1]; rfl)]
  exact rfl
 have e1:=gB w1
 by_cases w2:s = [111,117,116]
 ·have e2:=gX w2
  simp only [aA,Tryz.f186,KP,↓reduceIte,reduceEqDiff,reduceLT,reduceCtorEq,Cl,EK,HZ,e0,e1,e2]
  rw [oV (by rw [w2]; rfl)]
  exact rfl
 have e2:=gB w2
 by_cases w3:s = [97,102,116,101,114]
 ·have e3:=gX w3
  simp only [aA,Tryz.f186,KP,↓reduceIte,reduceEqDiff,reduceLT,reduceCtorEq,Cl,EK,HZ,Nt,e0,e1,e2,e3]
  rw [oV (by rw [w3]; rfl)]
  exact rfl
 have e3:=gB w3
 by_cases h40:s.length <= 40
 case neg=>
  have q1:decide ((s.length:Int) <= 40) = false:=decide_eq_false (by omega)
  rw [Er h40]
  simp only [aA,Tryz.f186,KP,↓reduceIte,reduceEqDiff,reduceLT,reduceCtorEq,fH h,Cl,EK,HZ,Nt,e0,e1,e2,e3,q1]
  exact rfl
 have q1:decide ((s.length:Int) <= 40) = true:=decide_eq_true (by omega)
 have hr:nW s = false:=by unfold nW; rw [decide_eq_false w0,decide_eq_false w1,decide_eq_false w2,decide_eq_false w3]; rfl
 rw [ML hr h40]
 simp only [aA,Tryz.f186,KP,↓reduceIte,reduceEqDiff,reduceLT,reduceCtorEq,fH h,Cl,EK,HZ,Nt,e0,e1,e2,e3,q1]
 refine aU (NN h (by omega)) ?_
 rintro v σ' ⟨rfl,hv⟩
 have hPl:=qP 47 s
 have hPp:=sK (s:=s) rfl
 generalize cE 47 s = P at *
 have kc:=fun (Y:Sg)=>Jp (Z:=Y) (k:=224) (caps:=[]) (P:=fun p=>!qT p) h (hv.is.ls Y 9) (by omega) (fun _ h=>by cases h) (fun y v hy hv=>by
  subst hv
  have:=hPp y hy
  show aB E 224 [.str y] [] _
  rw [XE h (by omega)]; exact ⟨rfl,rfl⟩)
 simp only [KP,↓reduceIte,reduceEqDiff,reduceLT,kc]
 rw [<- List.not_all_eq_any_not,Bool.not_not]
 exact rfl
theorem VK (h:bM E) {s:aM}:KC E 186 [.str s] Z (.bool (bL s)) Z:=dA fun _=>XF h
end
end
section
section
variable {E:Env} {Z:Sg} {K:V -> Sg -> Prop}
theorem NK (h:bM E) {p:Int}:aB E 169 [.int .i64 p] Z K = K (.fN [.int .i64 ((counts p).1:Nat),.int .i64 ((counts p).2.1:Nat),.int .i64 ((counts p).2.2:Nat)]) Z:=by
 refine aB.of ?_
 rw [aH h.V8 h.TP h.WT h.Vg (args':=[.int .i64 p]) (by simp only [aX,show aZ Z E.ty true (.int .i64 p) = some (.int .i64 p) from rfl]),bD (by kernel_rfl)]
 by_cases p5:p = 5
 ·have q5:decide (p = 5) = true:=decide_eq_true p5
  simp only [aA,Tryz.f169,KP,↓reduceIte,reduceEqDiff,reduceLT,reduceCtorEq,q5]
  rw [p5]
  exact rfl
 have q5:decide (p = 5) = false:=decide_eq_false p5
 by_cases p6:p = 6
 ·have q6:decide (p = 6) = true:=decide_eq_true p6
  simp only [aA,Tryz.f169,KP,↓reduceIte,reduceEqDiff,reduceLT,reduceCtorEq,q5,q6]
  rw [p6]
  exact rfl
 have q6:decide (p = 6) = false:=decide_eq_false p6
 by_cases p7:p = 7
 ·have q7:decide (p = 7) = true:=decide_eq_true p7
  simp only [aA,Tryz.f169,KP,↓reduceIte,reduceEqDiff,reduceLT,reduceCtorEq,q5,q6,q7]
  rw [p7]
  exact rfl
 have q7:decide (p = 7) = false:=decide_eq_false p7
 by_cases p8:p = 8
 ·have q8:decide (p = 8) = true:=decide_eq_true p8
  simp only [aA,Tryz.f169,KP,↓reduceIte,reduceEqDiff,reduceLT,reduceCtorEq,q5,q6,q7,q8]
  rw [p8]
  exact rfl
 have q8:decide (p = 8) = false:=decide_eq_false p8
 have e:counts p = (1,1,0):=by unfold counts; rw [if_neg p5,if_neg p6,if_neg p7,if_neg p8]
 rw [e]
 simp only [aA,Tryz.f169,KP,↓reduceIte,reduceEqDiff,reduceLT,reduceCtorEq,q5,q6,q7,q8]
 exact rfl
theorem M6 (h:bM E) {p:Int}:KC E 169 [.int .i64 p] Z (.fN [.int .i64 ((counts p).1:Nat),.int .i64 ((counts p).2.1:Nat),.int .i64 ((counts p).2.2:Nat)]) Z:=dA fun _=>NK h
theorem Lc (h:bM E) {s:aM}:aB E 170 [.str s] Z K = K (.bool (decide (100 < s.length))) Z:=by
 refine aB.of ?_
 rw [aH h.V7 h.TO h.WS h.Vf (args':=[.str s]) (by simp only [aX,cL]),bD (by kernel_rfl)]
 simp only [aA,Tryz.f170,KP,↓reduceIte,reduceLT,reduceCtorEq,fH h]
 rw [show decide ((100:Int) < (s.length:Int)) = decide (100 < s.length) from by rw [decide_eq_decide]; omega]
 exact rfl
theorem FV {x:AxS.Step}:bZ x = true ↔ ((1 <= x.op /\ x.op <= 9) /\ ((counts x.op).1 <= x.args.length /\ x.args.length <= (counts x.op).2.1)) /\ x.lits.length = (counts x.op).2.2 /\ (x.lits.any fun l=>decide (100 < l.length)) = false /\ (x.op = 8 -> x.lits.head? ≠ some []) /\ (0 <= x.n /\ x.n <= 2000) /\ (x.op = 9 \/ x.n = 0):=by
 have e:x.lits.all (fun l=>decide (l.length <= 100)) = !(x.lits.any fun l=>decide (100 < l.length)):=by
  rw [List.not_any_eq_all_not]
  congr 1
  funext l
  rw [<- decide_not,decide_eq_decide]
  omega
 unfold bZ
 rw [e]
 simp only [Bool.and_eq_true,decide_eq_true_eq,and_assoc,Bool.not_eq_true']
theorem pV {x:AxS.Step} (h:¬ (bZ x = true)):bZ x = false:=by simpa using h
theorem K8 (h:bM E) {v:V} {x:AxS.Step} (hv:Lm v x) (hsm:x.lits.length <= 4294967296):aB E 125 [v] Z K = K (.bool (bZ x)) Z:=by
 refine aB.of ?_
 have ev:=hv.snap (E:=E) Z
 obtain ⟨a,b,rfl,ia,ib⟩:=hv
 have hoka:a.aW = true:=aI ia.bB
 have hokb:b.aW = true:=aI ib.bB
 rw [aH h.Wh h.TZ h.W6 h.Vp (args':=[.agg [.str x.out,.int .i64 x.op,a,b,.int .i64 x.n]]) (by simp only [aX,ev]),bD (by kernel_rfl)]
 have la:=bK h ia
 have lb:=bK h ib
 have hm:=FV (x:=x)
 have kc:=fun (Y:Sg)=>M6 (Z:=Y) h (p:=x.op)
 have kl:=fun (Y:Sg)=>Jp (Z:=Y) (k:=170) (caps:=[]) (P:=fun l=>decide (100 < l.length)) h (ib.ls Y 9) hsm (fun _ h=>by cases h) (fun y v hy hv=>by
  subst hv
  show aB E 170 [.str y] [] _
  rw [Lc h]; exact ⟨rfl,rfl⟩)
 have h8:x.op = 8 -> (counts x.op).2.2 = 2:=fun e=>by rw [e]; rfl
 generalize (counts x.op).1 = A at *
 generalize (counts x.op).2.1 = B at *
 generalize (counts x.op).2.2 = C at *
 by_cases p1:1 <= x.op
 case neg=>
  have q1:decide (x.op < 1) = true:=decide_eq_true (by omega)
  rw [pV (mt hm.1 fun hh=>by omega)]
  simp only [aA,Tryz.f125,KP,Ax.loadAt,↓reduceIte,reduceEqDiff,reduceLT,reduceAdd,reduceCtorEq,h.pM,h.cP,kc,hoka,hokb,q1]
  exact rfl
 have q1:decide (x.op < 1) = false:=decide_eq_false (by omega)
 by_cases p2:x.op <= 9
 case neg=>
  have q2:decide ((9:Int) < x.op) = true:=decide_eq_true (by omega)
  rw [pV (mt hm.1 fun hh=>by omega)]
  simp only [aA,Tryz.f125,KP,Ax.loadAt,↓reduceIte,reduceEqDiff,reduceLT,reduceAdd,reduceCtorEq,h.pM,h.cP,kc,hoka,hokb,q1,q2]
  exact rfl
 have q2:decide ((9:Int) < x.op) = false:=decide_eq_false (by omega)
 by_cases p3:A <= x.args.length
 case neg=>
  have q3:decide ((x.args.length:Int) < (A:Int)) = true:=decide_eq_true (by omega)
  rw [pV (mt hm.1 fun hh=>by omega)]
  simp only [aA,Tryz.f125,KP,Ax.loadAt,↓reduceIte,reduceEqDiff,reduceLT,reduceAdd,reduceCtorEq,h.pM,h.aS,h.cP,kc,la,hoka,hokb,q1,q2,q3]
  exact rfl
 have q3:decide ((x.args.length:Int) < (A:Int)) = false:=decide_eq_false (by omega)
 by_cases p4:x.args.length <= B
 case neg=>
  have q4:decide ((B:Int) < (x.args.length:Int)) = true:=decide_eq_true (by omega)
  rw [pV (mt hm.1 fun hh=>by omega)]
  simp only [aA,Tryz.f125,KP,Ax.loadAt,↓reduceIte,reduceEqDiff,reduceLT,reduceAdd,reduceCtorEq,h.pM,h.aS,h.cP,kc,la,hoka,hokb,q1,q2,q3,q4]
  exact rfl
 have q4:decide ((B:Int) < (x.args.length:Int)) = false:=decide_eq_false (by omega)
 by_cases p5:x.lits.length = C
 case neg=>
  have q5:decide ((x.lits.length:Int) = (C:Int)) = false:=decide_eq_false (by omega)
  rw [pV (mt hm.1 fun hh=>by omega)]
  simp only [aA,Tryz.f125,KP,Ax.loadAt,↓reduceIte,reduceEqDiff,reduceLT,reduceAdd,reduceCtorEq,h.pM,h.aS,h.cP,kc,la,lb,hoka,hokb,q1,q2,q3,q4,q5]
  exact rfl
 have q5:decide ((x.lits.length:Int) = (C:Int)) = true:=decide_eq_true (by omega)
 by_cases p6:(x.lits.any fun l=>decide (100 < l.length)) = true
 ·rw [pV (mt hm.1 fun hh=>by rw [p6] at hh; simp at hh)]
  simp only [aA,Tryz.f125,KP,Ax.loadAt,↓reduceIte,reduceEqDiff,reduceLT,reduceAdd,reduceCtorEq,h.pM,h.aS,h.cP,kc,kl,la,lb,hoka,hokb,q1,q2,q3,q4,q5,p6]
  exact rfl
 have q6:(x.lits.any fun l=>decide (100 < l.length)) = false:=by simpa using p6
 by_cases p8:x.op = 8
 ·have q8:decide (x.op = 8) = true:=decide_eq_true p8
  have hC:=h8 p8
  obtain ⟨y,r,hyr⟩:=List.exists_cons_of_ne_nil (show x.lits ≠ [] from fun e=>by rw [e] at p5; simp at p5; omega)
  obtain ⟨g,e1⟩:=fJ h ib (i:=0) (x:=y) (by rw [hyr]; rfl)
  have e1:indexAddr E 28 b (.int .i64 0) = some (.dB g [.str y]):=e1
  by_cases hy:y = []
  ·have e2:=gX hy
   rw [pV (mt hm.1 fun hh=>hh.2.2.2.1 p8 (by rw [hyr,hy]; rfl))]
   simp only [aA,Tryz.f125,KP,Ax.loadAt,↓reduceIte,reduceEqDiff,reduceLT,reduceAdd,reduceCtorEq,h.pM,h.cK,h.aS,h.cP,kP,kc,kl,la,lb,hoka,hokb,q1,q2,q3,q4,q5,q6,q8,e1,e2]
   exact rfl
  have e2:=gB hy
  have hh8:x.op = 8 -> x.lits.head? ≠ some []:=fun _=>by rw [hyr]; simpa using hy
  by_cases p9:0 <= x.n
  case neg=>
   have q9:decide (x.n < 0) = true:=decide_eq_true (by omega)
   rw [pV (mt hm.1 fun hh=>by omega)]
   simp only [aA,Tryz.f125,KP,Ax.loadAt,↓reduceIte,reduceEqDiff,reduceLT,reduceAdd,reduceCtorEq,h.pM,h.cK,h.aS,h.cP,kP,kc,kl,la,lb,hoka,hokb,q1,q2,q3,q4,q5,q6,q8,e1,e2,q9]
   exact rfl
  have q9:decide (x.n < 0) = false:=decide_eq_false (by omega)
  by_cases p10:x.n <= 2000
  case neg=>
   have EX:decide ((2000:Int) < x.n) = true:=decide_eq_true (by omega)
   rw [pV (mt hm.1 fun hh=>by omega)]
   simp only [aA,Tryz.f125,KP,Ax.loadAt,↓reduceIte,reduceEqDiff,reduceLT,reduceAdd,reduceCtorEq,h.pM,h.cK,h.aS,h.cP,kP,kc,kl,la,lb,hoka,hokb,q1,q2,q3,q4,q5,q6,q8,e1,e2,q9,EX]
   exact rfl
  have EX:decide ((2000:Int) < x.n) = false:=decide_eq_false (by omega)
  by_cases p11:x.op = 9
  ·have G1:decide (x.op = 9) = true:=decide_eq_true p11
   rw [hm.2 ⟨⟨⟨p1,p2⟩,p3,p4⟩,p5,q6,hh8,⟨p9,p10⟩,.inl p11⟩]
   simp only [aA,Tryz.f125,KP,Ax.loadAt,↓reduceIte,reduceEqDiff,reduceLT,reduceAdd,reduceCtorEq,h.pM,h.cK,h.aS,h.cP,kP,kc,kl,la,lb,hoka,hokb,q1,q2,q3,q4,q5,q6,q8,e1,e2,q9,EX,G1]
   exact rfl
  have G1:decide (x.op = 9) = false:=decide_eq_false p11
  by_cases p12:x.n = 0
  case neg=>
   have Ln:decide (x.n = 0) = false:=decide_eq_false (by omega)
   rw [pV (mt hm.1 fun hh=>by omega)]
   simp only [aA,Tryz.f125,KP,Ax.loadAt,↓reduceIte,reduceEqDiff,reduceLT,reduceAdd,reduceCtorEq,h.pM,h.cK,h.aS,h.cP,kP,kc,kl,la,lb,hoka,hokb,q1,q2,q3,q4,q5,q6,q8,e1,e2,q9,EX,G1,Ln]
   exact rfl
  have Ln:decide (x.n = 0) = true:=decide_eq_true (by omega)
  rw [hm.2 ⟨⟨⟨p1,p2⟩,p3,p4⟩,p5,q6,hh8,⟨p9,p10⟩,.inr p12⟩]
  simp only [aA,Tryz.f125,KP,Ax.loadAt,↓reduceIte,reduceEqDiff,reduceLT,reduceAdd,reduceCtorEq,h.pM,h.cK,h.aS,h.cP,kP,kc,kl,la,lb,hoka,hokb,q1,q2,q3,q4,q5,q6,q8,e1,e2,q9,EX,G1,Ln]
  exact rfl
 ·have q8:decide (x.op = 8) = false:=decide_eq_false p8
  have hh8:x.op = 8 -> x.lits.head? ≠ some []:=fun e=>absurd e p8
  by_cases p9:0 <= x.n
  case neg=>
   have q9:decide (x.n < 0) = true:=decide_eq_true (by omega)
   rw [pV (mt hm.1 fun hh=>by omega)]
   simp only [aA,Tryz.f125,KP,Ax.loadAt,↓reduceIte,reduceEqDiff,reduceLT,reduceAdd,reduceCtorEq,h.pM,h.aS,h.cP,kc,kl,la,lb,hoka,hokb,q1,q2,q3,q4,q5,q6,q8,q9]
   exact rfl
  have q9:decide (x.n < 0) = false:=decide_eq_false (by omega)
  by_cases p10:x.n <= 2000
  case neg=>
   have EX:decide ((2000:Int) < x.n) = true:=decide_eq_true (by omega)
   rw [pV (mt hm.1 fun hh=>by omega)]
   simp only [aA,Tryz.f125,KP,Ax.loadAt,↓reduceIte,reduceEqDiff,reduceLT,reduceAdd,reduceCtorEq,h.pM,h.aS,h.cP,kc,kl,la,lb,hoka,hokb,q1,q2,q3,q4,q5,q6,q8,q9,EX]
   exact rfl
  have EX:decide ((2000:Int) < x.n) = false:=decide_eq_false (by omega)
  by_cases p11:x.op = 9
  ·have G1:decide (x.op = 9) = true:=decide_eq_true p11
   rw [hm.2 ⟨⟨⟨p1,p2⟩,p3,p4⟩,p5,q6,hh8,⟨p9,p10⟩,.inl p11⟩]
   simp only [aA,Tryz.f125,KP,Ax.loadAt,↓reduceIte,reduceEqDiff,reduceLT,reduceAdd,reduceCtorEq,h.pM,h.aS,h.cP,kc,kl,la,lb,hoka,hokb,q1,q2,q3,q4,q5,q6,q8,q9,EX,G1]
   exact rfl
  have G1:decide (x.op = 9) = false:=decide_eq_false p11
  by_cases p12:x.n = 0
  case neg=>
   have Ln:decide (x.n = 0) = false:=decide_eq_false (by omega)
   rw [pV (mt hm.1 fun hh=>by omega)]
   simp only [aA,Tryz.f125,KP,Ax.loadAt,↓reduceIte,reduceEqDiff,reduceLT,reduceAdd,reduceCtorEq,h.pM,h.aS,h.cP,kc,kl,la,lb,hoka,hokb,q1,q2,q3,q4,q5,q6,q8,q9,EX,G1,Ln]
   exact rfl
  have Ln:decide (x.n = 0) = true:=decide_eq_true (by omega)
  rw [hm.2 ⟨⟨⟨p1,p2⟩,p3,p4⟩,p5,q6,hh8,⟨p9,p10⟩,.inr p12⟩]
  simp only [aA,Tryz.f125,KP,Ax.loadAt,↓reduceIte,reduceEqDiff,reduceLT,reduceAdd,reduceCtorEq,h.pM,h.aS,h.cP,kc,kl,la,lb,hoka,hokb,q1,q2,q3,q4,q5,q6,q8,q9,EX,G1,Ln]
  exact rfl
theorem Kz (h:bM E) {v:V} {x:AxS.Step} (hv:Lm v x) (hsm:x.lits.length <= 4294967296):KC E 125 [v] Z (.bool (bZ x)) Z:=dA fun _=>K8 h hv hsm
end
end
section
section
variable {E:Env} {Z:Sg} {K:V -> Sg -> Prop}
theorem DO (h:bM E) {s:aM}:aB E 199 [.str s] Z K = K (.bool (!bL s)) Z:=by
 refine aB.of ?_
 rw [aH h.V2 h.TJ h.WN h.Vb (args':=[.str s]) (by simp only [aX,cL]),bD (by kernel_rfl)]
 have kc:=fun (Y:Sg)=>VK (Z:=Y) h (s:=s)
 simp only [aA,Tryz.f199,KP,↓reduceIte,reduceLT,reduceCtorEq,kc]
 exact rfl
theorem Dz (h:bM E) {s:aM}:KC E 199 [.str s] Z (.bool (!bL s)) Z:=dA fun _=>DO h
theorem AV (h:bM E) {a:V} {l:List aM} (ha:LS aJ 9 Z a l) (hsm:l.length <= 4294967296):KC E 67 [a,.fn 199 [] []] Z (.bool (!(l.all bL))) Z:=dA fun _=>by rw [List.not_all_eq_any_not]; exact JK (k:=199) (caps:=[]) (P:=fun s=>!bL s) h ha hsm (fun _ h=>by cases h) (fun y v hy hv=>by subst hv; show aB E 199 [.str y] [] _; rw [DO h]; exact ⟨rfl,rfl⟩)
def J3 (s:AxS.Step):Bool:=bL s.out && s.args.all bL && bZ s
theorem Qu (h:bM E) {v:V} {x:AxS.Step} (hv:Lm v x) (h1:x.args.length <= 4294967296) (h2:x.lits.length <= 4294967296):aB E 201 [v] Z K = K (.bool (!J3 x)) Z:=by
 refine aB.of ?_
 have ev:=hv.snap (E:=E) Z
 obtain ⟨a,b,rfl,ia,ib⟩:=hv
 have hoka:a.aW = true:=aI ia.bB
 have hokb:b.aW = true:=aI ib.bB
 rw [aH h.VY h.TH h.WL h.U_ (args':=[.agg [.str x.out,.int .i64 x.op,a,b,.int .i64 x.n]]) (by simp only [aX,ev]),bD (by kernel_rfl)]
 have k1:=fun (Y:Sg)=>Dz (Z:=Y) h (s:=x.out)
 have k2:=fun (Y:Sg)=>AV (Z:=Y) h (ia.ls Y 9) h1
 have k3:=fun (Y:Sg)=>Kz (Z:=Y) h (v:=.agg [.str x.out,.int .i64 x.op,a,b,.int .i64 x.n]) ⟨a,b,rfl,ia,ib⟩ h2
 unfold J3
 cases e1:bL x.out with
 | false=>
  simp only [aA,Tryz.f201,KP,Ax.loadAt,↓reduceIte,reduceEqDiff,reduceLT,reduceAdd,reduceCtorEq,h.cK,h.cP,hoka,hokb,k1,e1]
  exact rfl
 | true=>
  cases e2:x.args.all bL with
  | false=>
   simp only [aA,Tryz.f201,KP,Ax.loadAt,↓reduceIte,reduceEqDiff,reduceLT,reduceAdd,reduceCtorEq,h.cK,h.aS,h.cP,hoka,hokb,k1,k2,e1,e2]
   exact rfl
  | true=>
   simp only [aA,Tryz.f201,KP,Ax.loadAt,↓reduceIte,reduceEqDiff,reduceLT,reduceAdd,reduceCtorEq,h.cK,h.aS,h.cP,hoka,hokb,k1,k2,k3,e1,e2]
   exact rfl
theorem zA (r:aF):kA r = (bL r.name && decide (r.outs ≠ []) && r.ins.all bL && r.outs.all bL && r.after.all bL && r.steps.all J3):=rfl
theorem Qt (h:bM E) {v:V} {x:aF} (hv:GR v x) (hs:Small x):aB E 167 [v] Z K = K (.bool (kA x)) Z:=by
 refine aB.of ?_
 have ev:=hv.snap (E:=E) Z
 obtain ⟨a,b,c,d,rfl,ia,ib,ic,id⟩:=hv
 have o1:=aI ia.bB
 have o2:=aI ib.bB
 have o3:=aI ic.bB
 have o4:=aI id.bB
 have l1:=hs.ins
 have l2:=hs.outs
 have l3:=hs.after
 have l4:=hs.steps
 rw [aH h.V_ h.TR h.WV h.Vi (args':=[.agg [.str x.name,a,b,c,d]]) (by simp only [aX,ev]),bD (by kernel_rfl)]
 have lb:=bK h ib
 have kn:=fun (Y:Sg)=>Dz (Z:=Y) h (s:=x.name)
 have k1:=fun (Y:Sg)=>AV (Z:=Y) h (ia.ls Y 9) (by omega)
 have k2:=fun (Y:Sg)=>AV (Z:=Y) h (ib.ls Y 9) (by omega)
 have k3:=fun (Y:Sg)=>AV (Z:=Y) h (ic.ls Y 9) (by omega)
 have k4:=fun (Y:Sg)=>KH (Z:=Y) (k:=201) (caps:=[]) (P:=fun s=>!J3 s) h (id.ls Y 75) (by omega) (fun _ h=>by cases h) (fun y v hy hv=>by
  have hy1:=hs.args y hy
  have hy2:=hs.lits y hy
  show aB E 201 [v] [] _
  rw [Qu h hv (by omega) (by omega)]; exact ⟨rfl,rfl⟩)
 rw [zA]
 cases e0:bL x.name with
 | false=>
  simp only [aA,Tryz.f167,KP,Ax.loadAt,↓reduceIte,reduceEqDiff,reduceLT,reduceAdd,reduceCtorEq,h.cK,h.bE,o1,o2,o3,o4,kn,e0]
  exact rfl
 | true=>
 by_cases h0:x.outs = []
 ·have q0:decide ((x.outs.length:Int) = 0) = true:=decide_eq_true (by rw [h0]; rfl)
  simp only [aA,Tryz.f167,KP,Ax.loadAt,↓reduceIte,reduceEqDiff,reduceLT,reduceAdd,reduceCtorEq,h.cK,h.aS,h.bE,o1,o2,o3,o4,kn,e0,lb,q0]
  rw [h0]
  exact rfl
 have q0:decide ((x.outs.length:Int) = 0) = false:=decide_eq_false (by have:=List.length_pos_iff.2 h0; omega)
 rw [show decide (x.outs ≠ []) = true from decide_eq_true h0]
 have hf:Ax.fill (fun j=>some (j * 1,1)) (gR 3 [V.aC]) [(0,a),(1,b),(2,c)] = some [a,b,c]:=by
  rcases ia with ⟨rfl,-⟩ | ⟨_,_,_,rfl,-⟩ <;> rcases ib with ⟨rfl,-⟩ | ⟨_,_,_,rfl,-⟩ <;> rcases ic with ⟨rfl,-⟩ | ⟨_,_,_,rfl,-⟩ <;> rfl
 have lz:∀ Z,lenOf E Z 30 (.sl 1 0 3 none) = some 3:=fun Z=>by unfold lenOf; rw [h.CK]
 have i0:indexAddr E 30 (.sl 1 0 3 none) (.int .i64 0) = some (.ref 1 0):=by unfold Ax.indexAddr; simp only [h.CK,h.aS]; rfl
 have i1:indexAddr E 30 (.sl 1 0 3 none) (.int .i64 1) = some (.ref 1 1):=by unfold Ax.indexAddr; simp only [h.CK,h.aS]; rfl
 have i2:indexAddr E 30 (.sl 1 0 3 none) (.int .i64 2) = some (.ref 1 2):=by unfold Ax.indexAddr; simp only [h.CK,h.aS]; rfl
 have d0:decide ((0:Int) < ((3:Nat):Int)) = true:=rfl
 have d1:decide ((1:Int) < ((3:Nat):Int)) = true:=rfl
 have d2:decide ((2:Int) < ((3:Nat):Int)) = true:=rfl
 have d3:decide ((3:Int) < ((3:Nat):Int)) = false:=rfl
 have w1:wr .i64 1 = 1:=rfl
 have w2:wr .i64 2 = 2:=rfl
 have w3:wr .i64 3 = 3:=rfl
 simp only [aA,Tryz.f167,KP,Ax.loadAt,↓reduceIte,reduceEqDiff,reduceLT,reduceLeDiff,reduceAdd,reduceMul,reduceCtorEq,h.cK,h.aS,h.CK,h.bE,o1,o2,o3,o4,kn,e0,lb,q0,hf,lz]
 rw [aG]
 cases e1:x.ins.all bL with
 | false=>
  simp only [KP,Ax.loadAt,↓reduceIte,reduceEqDiff,reduceLT,h.aS,k1,e1,i0,d0]
  exact rfl
 | true=>
 simp only [KP,Ax.loadAt,↓reduceIte,reduceEqDiff,reduceLT,Int.reduceAdd,h.aS,k1,e1,w1,i0,d0]
 rw [aG]
 cases e2:x.outs.all bL with
 | false=>
  simp only [KP,Ax.loadAt,↓reduceIte,reduceEqDiff,reduceLT,h.aS,k2,e2,i1,d1]
  exact rfl
 | true=>
 simp only [KP,Ax.loadAt,↓reduceIte,reduceEqDiff,reduceLT,Int.reduceAdd,h.aS,k2,e2,w2,i1,d1]
 rw [aG]
 cases e3:x.after.all bL with
 | false=>
  simp only [KP,Ax.loadAt,↓reduceIte,reduceEqDiff,reduceLT,h.aS,k3,e3,i2,d2]
  exact rfl
 | true=>
 simp only [KP,Ax.loadAt,↓reduceIte,reduceEqDiff,reduceLT,Int.reduceAdd,h.aS,k3,e3,w3,i2,d2]
 rw [aG]
 have e4:x.steps.all J3 = !(x.steps.any fun s=>!J3 s):=by rw [<- List.not_all_eq_any_not,Bool.not_not]
 rw [e4]
 simp only [KP,Ax.loadAt,↓reduceIte,reduceEqDiff,reduceLT,reduceCtorEq,h.fE,h.bE,k4,d3]
 exact rfl
theorem Py (h:bM E) {v:V} {x:aF} (hv:GR v x) (hs:Small x):KC E 167 [v] Z (.bool (kA x)) Z:=dA fun _=>Qt h hv hs
end
end
section
section
variable {E:Env} {Z:Sg} {K:V -> Sg -> Prop}
theorem NC (h:bM E) {a:V} {l:List aM} (ha:LS aJ 9 Z a l) (hsm:l.length <= 4294967296):aB E 202 [a] Z K = K (.bool (kD l)) Z:=by
 refine aB.of ?_
 obtain ⟨a',ea,ia⟩:=jM h ha
 rw [aH h.VX h.TG h.WK h.U9 (args':=[a']) (by simp only [aX,ea]),bD (by kernel_rfl)]
 have la:=bK h ia
 simp only [aA,Tryz.f202,KP,↓reduceIte,reduceLT,reduceCtorEq,la]
 refine aQ (fun i F Y=>Y = [] /\ F.get 0 = a' /\ F.get 5 = a' /\ F.get 6 = .int .i64 (l.length:Int) /\ F.get 7 = .int .i64 (i:Int) /\ ∀ (j:Nat) (y:aM),j < i -> l[j]? = some y -> y ∉ l.take j) l.length ?_ ?_ l.length 0 _ _ (by omega) ⟨rfl,(gP (by simp +decide only [GS,and_self]) (fun j y hj=>by omega))⟩
 ·rintro i F Y hi ⟨rfl,g0,g5,g6,g7,hp⟩ next
  obtain ⟨x,hx⟩:∃ x,l[i]? = some x:=⟨_,List.getElem?_eq_getElem hi⟩
  obtain ⟨g,e1⟩:=fJ h ia hx
  obtain ⟨w,hw,iw⟩:=u_ h ia (b:=i) (by omega)
  have hlt:=dR hi
  have hadd:=bU i (by omega)
  have kc:=fun (Y:Sg)=>BW (Z:=Y) h (s:=x) (iw.ls Y 9) (by rw [length_take]; omega)
  rw [aG]
  by_cases hm:x ∈ l.take i
  ·have hs:=decide_eq_true hm
   simp only [KP,Ax.loadAt,↓reduceIte,reduceEqDiff,reduceLT,reduceCtorEq,h.cK,g0,g5,g6,g7,hlt,e1,hw,kc,hs]
   rw [Bb hx hm]
   exact rfl
  ·have hs:=decide_eq_false hm
   simp only [KP,Ax.loadAt,↓reduceIte,reduceEqDiff,reduceLT,reduceCtorEq,h.cK,g0,g5,g6,g7,hlt,e1,hw,kc,hs,hadd]
   refine next _ _ ⟨rfl,(gP (by simp +decide only [GS,g0,g5,g6,and_self]) (fun j y hj hy=>?_))⟩
   rcases Nat.lt_or_ge j i with g | g
   ·exact hp j y g hy
   ·obtain rfl:j = i:=by omega
    rw [hx] at hy; cases hy; exact hm
 ·rintro F Y ⟨rfl,g0,g5,g6,g7,hp⟩
  have hlt:=dS (Nat.lt_irrefl l.length)
  rw [aG]
  simp only [KP,↓reduceIte,reduceLT,g6,g7,hlt]
  rw [yC fun j y hy=>hp j y (List.getElem?_eq_some_iff.1 hy).1 hy]
  exact rfl
theorem BV (h:bM E) {a:V} {l:List aM} (ha:LS aJ 9 Z a l) (hsm:l.length <= 4294967296):KC E 202 [a] Z (.bool (kD l)) Z:=dA fun _=>NC h ha hsm
theorem Cg (h:bM E):sA E 28 true .aC .aC = some true:=by unfold sA; rw [h.aS]
theorem Cf (h:bM E) {g:Bool} {rs:List (List V)} {f:Bool}:sA E 28 true (.bQ g rs f) .aC = some false:=by unfold sA; rw [h.aS]
theorem pA (h:bM E) {a:V} {l:List aM} (ia:IS aJ a l) (hl:l.length <= 1000):aB E 97 [a] Z fun v σ'=>bH aJ 9 σ' v l /\ Kp Z σ' /\ ∀ b,aT v = some b -> Z.length <= b:=by
 rw [fK h.hs97 h.sp97 h.fn97 h.md97,bD (by kernel_rfl)]
 rcases ia with ⟨rfl,rfl⟩ | ⟨g,rs,full,rfl,ha⟩
 ·simp only [aA,Tryz.f97,KP,↓reduceIte,reduceLT,reduceCtorEq,Cg h]
  exact ⟨.inl ⟨rfl,rfl⟩,fun _ _ h=>h,fun b hb=>by cases hb⟩
 ·obtain ⟨rs',e,ha'⟩:=qD (L:=aJ) (x:=.bQ g rs full) (l:=l) (.inr ⟨g,rs,full,rfl,ha⟩) (Z ++ [O.cells 9 [] true])
  obtain ⟨w',τ',h1,h2,h3,h4,h5⟩:=i_ (ats:=#[28,28]) (Z:=Z ++ [O.cells 9 [] true]) (w:=.sl Z.length 0 0 none) (l:=[]) (L:=aJ) h.aS rfl h.cK rfl (by decide) (gI h) rfl (.inr ⟨Z.length,[],true,rfl,aR,.nil⟩) e ha' (dX (b:=1000) (by decide) (by simp only [length_nil]; omega))
  rw [List.nil_append] at h2
  simp only [aA,Tryz.f97,KP,↓reduceIte,reduceEqDiff,reduceLT,reduceLeDiff,reduceCtorEq,h.cK,h.aS,Cf h,h1,Ax.fill,gR,Nat.zero_mul]
  refine ⟨h2,fun c o hc=>h3 _ _ (aL hc) fun e=>?_,fun b hb=>?_⟩
  ·cases e
   exact absurd (List.getElem?_eq_some_iff.1 hc).1 (Nat.lt_irrefl _)
  ·rcases h5 b hb with g | g
   ·cases g; exact Nat.le_refl _
   ·simp only [length_append,length_cons,length_nil] at g; omega
theorem Fm {Z:Sg} {ty:Nat -> Option Ty} {g:Bool} {b n t m:Nat} {cs:List V} {ex:Bool} {i:Ty} (hb:Z[b]? = some (.cells t cs ex)) (hty:ty t = some i) (hlen:n * i.size <= cs.length)
  (hi:∀ c ∈ cs.take (n * i.size),Ax.bB c = true /\ cH g c = true):∃ full,bN Z ty g (m + 2) (.sl b 0 n none) = some (.bQ g (rows i.size n (cs.take (n * i.size))) full):=by
 have hm:aX (fun v=>match bN Z ty g (m + 1) v with
   | some v=>if cH g v then some v else Ax.no "snap: borrowed"
   | none=>none) ((cs.drop 0).take (n * i.size)) = some (cs.take (n * i.size)):=by
  rw [drop_zero]
  refine iQ fun x hx=>?_
  rw [jN (hi x hx).1]
  simp only [(hi x hx).2,if_true]
 refine ⟨ex && decide (0 < i.size) && (0 + n * i.size == cs.length),?_⟩
 rw [bN]
 simp only [hb,hty]
 rw [if_pos (by omega)]
 exact congrArg (fun o=>match o with
  | some l=>some (V.bQ g (rows i.size n l) (ex && decide (0 < i.size) && (0 + n * i.size == cs.length)))
  | none=>none) hm
theorem J5 (h:bM E) {Z:Sg} {w:V} {l:List aM} {m:Nat} (ow:bH aJ 9 Z w l):∃ w',bN Z E.ty true (m + 2) w = some w' /\ IS aJ w' l:=by
 rcases ow with ⟨rfl,rfl⟩ | ⟨b,rs,ex,rfl,hb,ha⟩
 ·exact ⟨.aC,rfl,.inl ⟨rfl,rfl⟩⟩
 ·have hfl:=Lay.flat ha
  have hfl:rs.flatten.length = l.length * 1:=hfl
  have htk:rs.flatten.take (l.length * 1) = rs.flatten:=take_of_length_le (by omega)
  obtain ⟨full,e⟩:=Fm (g:=true) (n:=l.length) (m:=m) hb h.cK (show l.length * 1 <= _ by omega) (fun c hcm=>by
   rw [show rs.flatten.take (l.length * 1) = rs.flatten from htk] at hcm
   obtain ⟨r,hr,hcr⟩:=List.mem_flatten.1 hcm
   obtain ⟨x,-,hp⟩:=ha.mem hr
   have:=aJ.im r x hp c hcr
   exact ⟨this,dG this⟩)
  refine ⟨_,e,.inr ⟨true,rs,full,?_,ha⟩⟩
  show V.bQ true (rows 1 l.length (rs.flatten.take (l.length * 1))) full = _
  rw [htk,<- ha.len]
  exact congrArg (fun z=>V.bQ true z full) (jP (sz:=1) rs (Lay.lens ha))
theorem uZ {Z:Sg} {f k t:Nat} {cs cs':List V} {ex:Bool} (hb:Z[k]? = some (.cells t cs ex)) (hm:aX (fun v=>match bN Z E.ty true 11 v with
   | some v=>if cH true v then some v else Ax.no "snap: borrowed"
   | none=>none) cs = some cs'):aZ Z E.ty true (.fn f [] [.ref k 0]) = some (.fn f [] [.dB true cs']):=by
 have e:bN Z E.ty true 12 (.ref k 0) = some (.dB true cs'):=by
  rw [bN]
  simp only [hb,drop_zero]
  exact congrArg (fun o=>match o with
   | some l=>some (V.dB true l)
   | none=>none) hm
 have e1:aZ.one Z E.ty true (.ref k 0) = some (.dB true cs'):=by
  unfold aZ.one
  rw [show c_ = 12 from rfl,e]
  rfl
 simp only [aZ,aX,e1]
theorem Bl (h:bM E) {Z:Sg} {w:V} {l:List aM} {f k t:Nat} {ex:Bool} (hb:Z[k]? = some (.cells t [w] ex)) (ow:bH aJ 9 Z w l):∃ w',aZ Z E.ty true (.fn f [] [.ref k 0]) = some (.fn f [] [.dB true [w']]) /\ IS aJ w' l:=by
 obtain ⟨w',e,iw⟩:=J5 (m:=9) h ow
 refine ⟨w',uZ hb ?_,iw⟩
 simp only [aX,e,dG iw.bB,if_true]
theorem Hq {Z:Sg} {f k t:Nat} {cs:List V} {ex:Bool} (hb:Z[k]? = some (.cells t cs ex)) (hc:∀ c ∈ cs,Ax.bB c = true):aZ Z E.ty true (.fn f [] [.ref k 0]) = some (.fn f [] [.dB true cs]):=
 uZ hb (iQ fun x hx=>by rw [show 11 = 10 + 1 from rfl,jN (hc x hx)]; simp only [dG (hc x hx),if_true])
theorem GG (h:bM E) {w:V} {l:List aM} {y:aM} {g:Bool} (iw:IS aJ w l) (hsm:l.length <= 4294967296):aB E 203 [.str y,.dB g [w]] [] K = K (.bool (!decide (y ∈ l))) []:=by
 refine aB.of ?_
 have hi:Ax.bB (.dB g [w]) = true:=rfl
 have ew:=eZ (Z:=[]) (ty:=E.ty) hi (dG hi)
 rw [aH h.VW h.TF h.WJ h.U8 (args':=[.str y,.dB g [w]]) (by simp only [aX,cL,ew]),bD (by kernel_rfl)]
 have kc:=fun (Y:Sg)=>BW (Z:=Y) h (s:=y) (iw.ls Y 9) hsm
 simp only [aA,Tryz.f203,KP,Ax.loadAt,↓reduceIte,reduceEqDiff,reduceLT,reduceAdd,reduceCtorEq,h.aS,kc]
 exact rfl
theorem NI (h:bM E) {a b c d:V} {l:List aM} {n y:aM} {g:Bool} (ia:IS aJ a l) (hb:Ax.bB b = true) (hc:Ax.bB c = true) (hd:Ax.bB d = true) (hsm:l.length <= 4294967296):aB E 204 [.str y,.dB g [.str n,a,b,c,d]] [] K = K (.bool (decide (y ∈ l))) []:=by
 refine aB.of ?_
 have hi:Ax.bB (.dB g [.str n,a,b,c,d]) = true:=rfl
 have ew:=eZ (Z:=[]) (ty:=E.ty) hi (dG hi)
 rw [aH h.VV h.TE h.WI h.U7 (args':=[.str y,.dB g [.str n,a,b,c,d]]) (by simp only [aX,cL,ew]),bD (by kernel_rfl)]
 have kc:=fun (Y:Sg)=>BW (Z:=Y) h (s:=y) (ia.ls Y 9) hsm
 simp only [aA,Tryz.f204,KP,Ax.loadAt,↓reduceIte,reduceEqDiff,reduceLT,reduceAdd,reduceCtorEq,h.aS,h.bE,kc]
 exact rfl
end
end
section
section
variable {E:Env} {Z:Sg} {K:V -> Sg -> Prop}
theorem bH.set {Z:Sg} {w:V} {l:List aM} {k:Nat} {y:O} (ow:bH aJ 9 Z w l) (hk:aT w ≠ some k):bH aJ 9 (Z.set k y) w l:=ow.keep fun c o hc ho=>by
 rw [getElem?_set_ne (fun e=>hk (by rw [e]; exact hc))]
 exact ho
theorem MI (h:bM E) {x:aF} {a b c d:V} (ia:IS aJ a x.ins) (ib:IS aJ b x.outs) (id:IS eV d x.steps) (hs:Small x) {kb:Nat} {Y:Sg} {w:V} (b0:Y[0]? = some (O.cells 37 [.str x.name,a,b,c,d] true)) (k0:Y[kb]? = some (.cells 28 [w] true)) (ow:bH aJ 9 Y w x.ins) (F:FT) (g1:F.get 1 = .ref 0 0) (g3:F.get 3 = .ref kb 0) (g4:F.get 4 = .fn 203 [] [.ref kb 0])
  (hk:∀ σ',K (.bool (gT x.ins x.steps && x.outs.all fun o=>decide (o ∈ x.ins ++ x.steps.map Step.out))) σ'):R E (cutAt [1,1,1,1,1] (aA Tryz.f168).code) [] ⟨63,F⟩ Y (lT E (aA Tryz.f168).results K):=by
 have l1:=hs.ins
 have l2:=hs.outs
 have l4:=hs.steps
 have ld:=kV h id
 simp only [aA,Tryz.f168,KP,Ax.loadAt,↓reduceIte,reduceLT,reduceCtorEq,h.fE,h.bE,cutAt,g1,b0,ld]
 refine aQ (fun i F Y=>F.get 1 = .ref 0 0 /\ F.get 3 = .ref kb 0 /\ F.get 4 = .fn 203 [] [.ref kb 0] /\ F.get 36 = d /\ F.get 37 = .int .i64 (x.steps.length:Int) /\ F.get 38 = .int .i64 (i:Int) /\ Y[0]? = some (O.cells 37 [.str x.name,a,b,c,d] true) /\ ∃ w,Y[kb]? = some (.cells 28 [w] true) /\ bH aJ 9 Y w (x.ins ++ (x.steps.take i).map Step.out) /\ gT x.ins x.steps = gT (x.ins ++ (x.steps.take i).map Step.out) (x.steps.drop i)) x.steps.length ?_ ?_ x.steps.length 0 _ _ (by omega) (Cr (by simp +decide only [GS,g1,g3,g4,and_self]) ⟨b0,w,k0,by simpa using ow,by simp⟩)
 ·rintro i F Y hi ⟨g1,g3,g4,g36,g37,g38,b0,w,k0,ow,hst⟩ next
  obtain ⟨s,hsi⟩:∃ y,x.steps[i]? = some y:=⟨_,List.getElem?_eq_getElem hi⟩
  obtain ⟨g,p1,p2,e1,i1,i2⟩:=t_ h id hsi
  have a8:=hs.args s (mem_of_getElem? hsi)
  have o1:=aI i1.bB
  have o2:=aI i2.bB
  have hlt:=dR hi
  have hadd:=bU i (by omega)
  have hdrop:x.steps.drop i = s :: x.steps.drop (i + 1):=by
   obtain ⟨hj,rfl⟩:=List.getElem?_eq_some_iff.1 hsi
   exact List.drop_eq_getElem_cons hj
  have htake:x.ins ++ (x.steps.take (i + 1)).map Step.out = x.ins ++ (x.steps.take i).map Step.out ++ [s.out]:=by
   rw [take_add_one,hsi]; simp
  have hkl:(x.ins ++ (x.steps.take i).map Step.out).length <= 100:=by
   rw [length_append,length_map,length_take]; omega
  rw [hdrop,gT] at hst
  rw [htake] at next
  generalize x.ins ++ (x.steps.take i).map Step.out = kn at *
  rw [hst] at hk
  have b1:=aL (x:=O.cells 75 [.str s.out,.int .i64 s.op,p1,p2,.int .i64 s.n] true) b0
  have k1:=aL (x:=O.cells 75 [.str s.out,.int .i64 s.op,p1,p2,.int .i64 s.n] true) k0
  have s1:(Y ++ [O.cells 75 [.str s.out,.int .i64 s.op,p1,p2,.int .i64 s.n] true])[Y.length]? = some (O.cells 75 [.str s.out,.int .i64 s.op,p1,p2,.int .i64 s.n] true):=aR
  have ow1:=ow.app [O.cells 75 [.str s.out,.int .i64 s.op,p1,p2,.int .i64 s.n] true]
  rw [aG]
  simp only [KP,Ax.loadAt,Ax.storeAt,↓reduceIte,reduceEqDiff,reduceLT,reduceAdd,h.aS,h.cP,g3,g36,g37,g38,hlt,e1,o1,o2,aR,cU]
  generalize Y ++ [O.cells 75 [.str s.out,.int .i64 s.op,p1,p2,.int .i64 s.n] true] = τ1 at *
  generalize Y.length = y at *
  have kc:=BW (Z:=τ1) h (s:=s.out) ow1.ls (by omega)
  obtain ⟨w',es,iw⟩:=Bl (f:=203) h k1 ow1
  have kf:=dA (fun K=>oM (Z:=τ1) (K:=K) (k:=203) (caps:=[.dB true [w']]) (P:=fun y=>!decide (y ∈ kn)) h (i1.ls τ1 9) (by omega) (fun c hc=>by cases hc with | head=>rfl | tail _ hc=>cases hc) (fun y v hy hv=>by
   subst hv
   show aB E 203 [.str y,.dB true [w']] [] _
   rw [GG h iw (by omega)]; exact ⟨rfl,rfl⟩) es)
  by_cases m1:s.out ∈ kn
  ·have q1:=decide_eq_true m1
   rw [q1] at hk
   simp only [KP,Ax.loadAt,↓reduceIte,reduceEqDiff,reduceLT,reduceCtorEq,h.cK,h.cP,k1,s1,kc,q1]
   exact hk _
  have q1:=decide_eq_false m1
  cases m2:s.args.any fun y=>!decide (y ∈ kn) with
  | true=>
   rw [show s.args.all (fun a=>decide (a ∈ kn)) = false from by rw [<- Bool.not_eq_true',List.not_all_eq_any_not,m2],Bool.and_false,Bool.false_and,Bool.false_and] at hk
   simp only [KP,Ax.loadAt,↓reduceIte,reduceEqDiff,reduceLT,reduceCtorEq,h.cK,h.aS,h.cP,g4,k1,s1,kc,kf,q1,m2]
   exact hk _
  | false=>
  rw [q1,show s.args.all (fun a=>decide (a ∈ kn)) = true from by rw [<- Bool.not_eq_false',List.not_all_eq_any_not,m2],Bool.not_false,Bool.true_and,Bool.true_and] at hst
  have b2:=aL (x:=O.cells 9 [.str s.out] true) b1
  have k2:=aL (x:=O.cells 9 [.str s.out] true) k1
  obtain ⟨w2,τ2,ha2,ow2,QL,-,fr2⟩:=i_ (ats:=#[28,28]) (m:=[s.out]) (new:=[[.str s.out]]) h.aS rfl h.cK rfl (by decide) (gI h) rfl (ow1.app [.cells 9 [.str s.out] true]) (jT rfl) (.one rfl) (dX (b:=1000) (by decide) (by simp only [length_cons,length_nil]; omega))
  have nk:=j_ (w:=w) k2 (by decide) (ow1.app [.cells 9 [.str s.out] true])
  have n0:=j_ (w:=w) b2 (by decide) (ow1.app [.cells 9 [.str s.out] true])
  have k3:=QL _ _ k2 nk
  have b3:=QL _ _ b2 n0
  have nk2:aT w2 ≠ some kb:=j_ k3 (by decide) ow2
  obtain ⟨c1,c2⟩:=pT ow2
  have hkb:kb ≠ 0:=fun e=>by
   rw [e,b0] at k0
   cases k0
  have hlen:=(List.getElem?_eq_some_iff.1 k3).1
  simp only [KP,Ax.loadAt,Ax.storeAt,↓reduceIte,reduceEqDiff,reduceLT,reduceLeDiff,reduceMul,reduceCtorEq,h.cK,h.aS,h.cP,g3,g4,g38,k1,s1,kc,kf,q1,m2,iM,ha2,k3,c1,c2,hadd]
  refine next _ _ ⟨?_,?_,?_,?_,?_,?_,?_,w2,?_,?_,?_⟩
  ·exact (by simp +decide only [GS,g1])
  ·exact (by simp +decide only [GS,g3])
  ·exact (by simp +decide only [GS,g4])
  ·exact (by simp +decide only [GS,g36])
  ·exact (by simp +decide only [GS,g37])
  ·exact (by simp +decide only [GS])
  ·rw [getElem?_set_ne hkb]; exact b3
  ·rw [getElem?_set_self hlen]
  ·exact bH.set ow2 nk2
  ·exact hst
 ·rintro F Y ⟨g1,g3,g4,g36,g37,g38,b0,w,k0,ow,hst⟩
  rw [take_of_length_le (Nat.le_refl _)] at ow hst
  rw [show x.steps.drop x.steps.length = [] from List.drop_length,gT] at hst
  have hkl:(x.ins ++ x.steps.map Step.out).length <= 100:=by
   rw [length_append,length_map]; omega
  generalize x.ins ++ x.steps.map Step.out = kn at *
  obtain ⟨w',es,iw⟩:=Bl (f:=203) h k0 ow
  have kf:=dA (fun K=>oM (Z:=Y) (K:=K) (k:=203) (caps:=[.dB true [w']]) (P:=fun y=>!decide (y ∈ kn)) h (ib.ls Y 9) (by omega) (fun c hc=>by cases hc with | head=>rfl | tail _ hc=>cases hc) (fun y v hy hv=>by
   subst hv
   show aB E 203 [.str y,.dB true [w']] [] _
   rw [GG h iw (by omega)]; exact ⟨rfl,rfl⟩) es)
  have hlt:=dS (Nat.lt_irrefl x.steps.length)
  rw [hst,Bool.true_and] at hk
  have e:(x.outs.all fun o=>decide (o ∈ kn)) = !(x.outs.any fun y=>!decide (y ∈ kn)):=by rw [<- List.not_all_eq_any_not,Bool.not_not]
  rw [e] at hk
  rw [aG]
  simp only [KP,Ax.loadAt,↓reduceIte,reduceEqDiff,reduceLT,reduceCtorEq,h.aS,h.bE,g1,g4,g37,g38,hlt,b0,kf]
  exact hk _
theorem Qr (h:bM E) {v:V} {x:aF} (hv:GR v x) (hs:Small x):aB E 168 [v] Z K = K (.bool (e_ x)) Z:=by
 refine aB.of ?_
 have ev:=hv.snap (E:=E) Z
 obtain ⟨a,b,c,d,rfl,ia,ib,ic,id⟩:=hv
 have o1:=aI ia.bB
 have o2:=aI ib.bB
 have o3:=aI ic.bB
 have o4:=aI id.bB
 have l1:=hs.ins
 have l2:=hs.outs
 have l3:=hs.after
 rw [aH h.V9 h.TQ h.WU h.Vh (args':=[.agg [.str x.name,a,b,c,d]]) (by simp only [aX,ev]),bD (by kernel_rfl)]
 have k1:=fun (Y:Sg)=>BV (Z:=Y) h (ia.ls Y 9) (by omega)
 have k2:=fun (Y:Sg)=>BV (Z:=Y) h (ib.ls Y 9) (by omega)
 have k3:=fun (Y:Sg)=>BV (Z:=Y) h (ic.ls Y 9) (by omega)
 have kc:=fun (Y:Sg)=>BW (Z:=Y) h (s:=x.name) (ic.ls Y 9) (by omega)
 have rest:=fun (hn:(gT x.ins x.steps && x.outs.all fun o=>decide (o ∈ x.ins ++ x.steps.map Step.out)) = e_ x) kb Y w F b0 k0 ow g1 g3 g4=>MI (K:=fun v σ1=>match cT σ1 E.ty false v with
   | some v=>v = .bool (e_ x)
   | none=>False) (c:=c) h ia ib id hs (kb:=kb) (Y:=Y) (w:=w) b0 k0 ow F g1 g3 g4 fun _=>by rw [hn]; exact rfl
 generalize hC:cutAt [1,1,1,1,1] (aA Tryz.f168).code = C at rest
 cases e0:kD x.ins with
 | true=>
  simp only [aA,Tryz.f168,KP,Ax.loadAt,↓reduceIte,reduceEqDiff,reduceLT,reduceAdd,reduceCtorEq,h.aS,h.bE,o1,o2,o3,o4,k1,e0]
  show V.bool false = V.bool (e_ x)
  unfold e_
  simp [e0]
 | false=>
 cases e1:kD x.outs with
 | true=>
  simp only [aA,Tryz.f168,KP,Ax.loadAt,↓reduceIte,reduceEqDiff,reduceLT,reduceAdd,reduceCtorEq,h.aS,h.bE,o1,o2,o3,o4,k1,k2,e0,e1]
  show V.bool false = V.bool (e_ x)
  unfold e_
  simp [e0,e1]
 | false=>
 cases e2:kD x.after with
 | true=>
  simp only [aA,Tryz.f168,KP,Ax.loadAt,↓reduceIte,reduceEqDiff,reduceLT,reduceAdd,reduceCtorEq,h.aS,h.bE,o1,o2,o3,o4,k1,k2,k3,e0,e1,e2]
  show V.bool false = V.bool (e_ x)
  unfold e_
  simp [e0,e1,e2]
 | false=>
 cases e3:decide (x.name ∈ x.after) with
 | true=>
  simp only [aA,Tryz.f168,KP,Ax.loadAt,↓reduceIte,reduceEqDiff,reduceLT,reduceAdd,reduceCtorEq,h.cK,h.aS,h.bE,o1,o2,o3,o4,k1,k2,k3,kc,e0,e1,e2,e3]
  show V.bool false = V.bool (e_ x)
  unfold e_
  rw [e0,e1,e2,e3]
  rfl
 | false=>
 rw [show (aA Tryz.f168).code = .seq (cutAt [0] (aA Tryz.f168).code) (.seq (cutAt [1,0] (aA Tryz.f168).code) (.seq (cutAt [1,1,0] (aA Tryz.f168).code) (.seq (cutAt [1,1,1,0] (aA Tryz.f168).code) (.seq (cutAt [1,1,1,1,0] (aA Tryz.f168).code) C)))) from by rw [<- hC]; rfl]
 simp only [aA,Tryz.f168,KP,Ax.loadAt,↓reduceIte,reduceEqDiff,reduceLT,reduceAdd,reduceCtorEq,h.cK,h.aS,h.bE,cutAt,o1,o2,o3,o4,k1,k2,k3,kc,e0,e1,e2,e3]
 refine aU (pA h ia (by omega)) ?_
 rintro w Y ⟨ow,kp,-⟩
 have b0:Y[0]? = some (O.cells 37 [.str x.name,a,b,c,d] true):=kp 0 _ rfl
 obtain ⟨c1,c2⟩:=pT ow
 have b1:=aL (x:=O.cells 28 [w] true) b0
 have kk:(Y ++ [O.cells 28 [w] true])[Y.length]? = some (O.cells 28 [w] true):=aR
 have es:=Hq (E:=E) (f:=204) b1 (fun y hy=>by
  simp only [mem_cons,List.not_mem_nil,or_false] at hy
  rcases hy with rfl | rfl | rfl | rfl | rfl
  ·rfl
  ·exact ia.bB
  ·exact ib.bB
  ·exact ic.bB
  ·exact id.bB)
 have kf:=dA (fun K=>oM (Z:=Y ++ [O.cells 28 [w] true]) (K:=K) (k:=204) (caps:=[.dB true [.str x.name,a,b,c,d]]) (P:=fun y=>decide (y ∈ x.ins)) h (ib.ls _ 9) (by omega) (fun c hc=>by cases hc with | head=>rfl | tail _ hc=>cases hc) (fun y v hy hv=>by
  subst hv
  show aB E 204 [.str y,.dB true [.str x.name,a,b,c,d]] [] _
  rw [NI h ia ib.bB ic.bB id.bB (by omega)]; exact ⟨rfl,rfl⟩) es)
 have eo:(x.outs.all fun o=>!decide (o ∈ x.ins)) = !(x.outs.any fun y=>decide (y ∈ x.ins)):=by rw [List.not_any_eq_all_not]
 cases e4:x.outs.any fun y=>decide (y ∈ x.ins) with
 | true=>
  simp only [KP,Ax.loadAt,Ax.storeAt,↓reduceIte,reduceEqDiff,reduceLT,reduceCtorEq,h.aS,h.bE,b1,kf,e4,c1,c2,aR,cU]
  show V.bool false = V.bool (e_ x)
  unfold e_
  rw [eo,e0,e1,e2,e3,e4]
  rfl
 | false=>
 simp only [KP,Ax.loadAt,Ax.storeAt,↓reduceIte,reduceEqDiff,reduceLT,reduceCtorEq,h.aS,h.bE,b1,kf,e4,c1,c2,aR,cU]
 refine rest ?_ Y.length _ w _ b1 kk (ow.app _) ?_ ?_ ?_
 ·unfold e_
  rw [eo,e0,e1,e2,e3,e4]
  simp
 ·exact (by simp +decide only [GS])
 ·exact (by simp +decide only [GS])
 ·exact (by simp +decide only [GS])
theorem Pu (h:bM E) {v:V} {x:aF} (hv:GR v x) (hs:Small x):KC E 168 [v] Z (.bool (e_ x)) Z:=dA fun _=>Qr h hv hs
end
end
section
section
variable {E:Env} {Z:Sg} {K:V -> Sg -> Prop}
theorem Qv (h:bM E) {v:V} {x:aF} (hv:GR v x) (hs:Small x):aB E 124 [v] Z K = K (.int .i64 (aY x)) Z:=by
 refine aB.of ?_
 have ev:=hv.snap (E:=E) Z
 obtain ⟨a,b,c,d,rfl,ia,ib,ic,id⟩:=hv
 have o1:=aI ia.bB
 have o2:=aI ib.bB
 have o3:=aI ic.bB
 have o4:=aI id.bB
 have la:=bK h ia
 have lb:=bK h ib
 have lc:=bK h ic
 have ld:=kV h id
 rw [aH h.Wi h.T0 h.W7 h.Vq (args':=[.agg [.str x.name,a,b,c,d]]) (by simp only [aX,ev]),bD (by kernel_rfl)]
 have k1:=fun (Y:Sg)=>Py (Z:=Y) h (v:=.agg [.str x.name,a,b,c,d]) ⟨a,b,c,d,rfl,ia,ib,ic,id⟩ hs
 have k2:=fun (Y:Sg)=>Pu (Z:=Y) h (v:=.agg [.str x.name,a,b,c,d]) ⟨a,b,c,d,rfl,ia,ib,ic,id⟩ hs
 cases e1:kA x with
 | false=>
  simp only [aA,Tryz.f124,KP,Ax.loadAt,↓reduceIte,reduceEqDiff,reduceLT,reduceAdd,h.bE,o1,o2,o3,o4,k1,e1]
  show V.int .i64 1 = V.int .i64 (aY x)
  rw [show aY x = 1 from by unfold aY; rw [if_pos e1]]
 | true=>
 by_cases p0:8 < x.ins.length
 ·have q0:decide ((8:Int) < (x.ins.length:Int)) = true:=decide_eq_true (by omega)
  simp only [aA,Tryz.f124,KP,Ax.loadAt,↓reduceIte,reduceEqDiff,reduceLT,reduceAdd,reduceCtorEq,h.aS,h.bE,o1,o2,o3,o4,la,k1,e1,q0]
  show V.int .i64 4 = V.int .i64 (aY x)
  rw [show aY x = 4 from by unfold aY; rw [if_neg (by rw [e1]; simp)]; rw [if_pos (by unfold long; rw [decide_eq_true p0]; simp)]]
 have q0:decide ((8:Int) < (x.ins.length:Int)) = false:=decide_eq_false (by omega)
 by_cases p1:4 < x.outs.length
 ·have q1:decide ((4:Int) < (x.outs.length:Int)) = true:=decide_eq_true (by omega)
  simp only [aA,Tryz.f124,KP,Ax.loadAt,↓reduceIte,reduceEqDiff,reduceLT,reduceAdd,reduceCtorEq,h.aS,h.bE,o1,o2,o3,o4,la,lb,k1,e1,q0,q1]
  show V.int .i64 4 = V.int .i64 (aY x)
  rw [show aY x = 4 from by unfold aY; rw [if_neg (by rw [e1]; simp)]; rw [if_pos (by unfold long; rw [decide_eq_true p1]; simp)]]
 have q1:decide ((4:Int) < (x.outs.length:Int)) = false:=decide_eq_false (by omega)
 by_cases p2:8 < x.after.length
 ·have q2:decide ((8:Int) < (x.after.length:Int)) = true:=decide_eq_true (by omega)
  simp only [aA,Tryz.f124,KP,Ax.loadAt,↓reduceIte,reduceEqDiff,reduceLT,reduceAdd,reduceCtorEq,h.aS,h.bE,o1,o2,o3,o4,la,lb,lc,k1,e1,q0,q1,q2]
  show V.int .i64 4 = V.int .i64 (aY x)
  rw [show aY x = 4 from by unfold aY; rw [if_neg (by rw [e1]; simp)]; rw [if_pos (by unfold long; rw [decide_eq_true p2]; simp)]]
 have q2:decide ((8:Int) < (x.after.length:Int)) = false:=decide_eq_false (by omega)
 by_cases p3:12 < x.steps.length
 ·have q3:decide ((12:Int) < (x.steps.length:Int)) = true:=decide_eq_true (by omega)
  simp only [aA,Tryz.f124,KP,Ax.loadAt,↓reduceIte,reduceEqDiff,reduceLT,reduceAdd,reduceCtorEq,h.aS,h.fE,h.bE,o1,o2,o3,o4,la,lb,lc,ld,k1,e1,q0,q1,q2,q3]
  show V.int .i64 4 = V.int .i64 (aY x)
  rw [show aY x = 4 from by unfold aY; rw [if_neg (by rw [e1]; simp)]; rw [if_pos (by unfold long; rw [decide_eq_true p3]; simp)]]
 have q3:decide ((12:Int) < (x.steps.length:Int)) = false:=decide_eq_false (by omega)
 cases e2:e_ x with
 | false=>
  simp only [aA,Tryz.f124,KP,Ax.loadAt,↓reduceIte,reduceEqDiff,reduceLT,reduceAdd,reduceCtorEq,h.aS,h.fE,h.bE,o1,o2,o3,o4,la,lb,lc,ld,k1,k2,e1,q0,q1,q2,q3,e2]
  show V.int .i64 2 = V.int .i64 (aY x)
  rw [show aY x = 2 from by unfold aY; rw [if_neg (by rw [e1]; simp)]; rw [if_neg (by unfold long; rw [decide_eq_false p0,decide_eq_false p1,decide_eq_false p2,decide_eq_false p3]; simp)]; rw [if_pos e2]]
 | true=>
 simp only [aA,Tryz.f124,KP,Ax.loadAt,↓reduceIte,reduceEqDiff,reduceLT,reduceAdd,reduceCtorEq,h.aS,h.fE,h.bE,o1,o2,o3,o4,la,lb,lc,ld,k1,k2,e1,q0,q1,q2,q3,e2]
 show V.int .i64 0 = V.int .i64 (aY x)
 rw [show aY x = 0 from by unfold aY; rw [if_neg (by rw [e1]; simp)]; rw [if_neg (by unfold long; rw [decide_eq_false p0,decide_eq_false p1,decide_eq_false p2,decide_eq_false p3]; simp)]; rw [if_neg (by rw [e2]; simp)]]
theorem PD (h:bM E) {v:V} {x:aF} (hv:GR v x) (hs:Small x):KC E 124 [v] Z (.int .i64 (aY x)) Z:=dA fun _=>Qv h hv hs
end
end
section
section
variable {E:Env} {Z:Sg} {K:V -> Sg -> Prop}
def SM (E:Env) (es:List (V × V)) (get:aM -> Option V):Prop:=(∀ e ∈ es,(∃ k,e.1 = .str k) /\ Ax.bB e.2 = true) /\ ∀ k,iX (eX E 9) (.str k) es = some (get k)
theorem bV (h:bM E) (a b:aM):eX E 9 (.str a) (.str b) = some (Ax.seq a b):=by unfold eX; rw [h.cK]
theorem Ht:SM E [] fun _=>none:=⟨fun _ h=>(by cases h),fun _=>rfl⟩
theorem Ee (h:bM E) {v:V} (k:aM) (hv:Ax.bB v = true):∀ {es:List (V × V)} {get:aM -> Option V},SM E es get -> ∃ es',jI (eX E 9) (.str k) v es = some es' /\ SM E es' fun q=>if q = k then some v else get q
 | [],get,hs=>by
  refine ⟨[(.str k,v)],rfl,fun e he=>?_,fun q=>?_⟩
  ·rw [mem_singleton.1 he]
   exact ⟨⟨k,rfl⟩,hv⟩
  ·show _ = some (if q = k then some v else get q)
   have e0:none = get q:=Option.some.inj (hs.2 q)
   rw [iX,bV h]
   by_cases hq:q = k
   ·rw [gX hq,if_pos hq]
   ·rw [gB hq,if_neg hq,<- e0]; rfl
 | (k0,v0) :: r,get,hs=>by
  obtain ⟨⟨s0,e0⟩,i0⟩:=hs.1 _ (mem_cons_self ..)
  dsimp only at e0 i0
  subst e0
  by_cases hk:k = s0
  ·refine ⟨(.str k,v) :: r,by rw [jI,bV h,gX hk],fun e he=>?_,fun q=>?_⟩
   ·rcases mem_cons.1 he with rfl | he
    ·exact ⟨⟨k,rfl⟩,hv⟩
    ·exact hs.1 e (mem_cons_of_mem _ he)
   ·have:=hs.2 q
    show _ = some (if q = k then some v else get q)
    rw [iX,bV h] at this ⊢
    by_cases hq:q = k
    ·rw [gX hq,if_pos hq]
    ·rw [gB (show q ≠ s0 by rw [<- hk]; exact hq)] at this
     rw [gB hq,if_neg hq]
     exact this
  ·have hs':SM E r fun q=>if q = s0 then (match iX (eX E 9) (.str q) r with | some y=>y | none=>none) else get q:=by
    refine ⟨fun e he=>hs.1 e (mem_cons_of_mem _ he),fun q=>?_⟩
    have:=hs.2 q
    rw [iX,bV h] at this
    show _ = some (if q = s0 then (match iX (eX E 9) (.str q) r with | some y=>y | none=>none) else get q)
    by_cases hq:q = s0
    ·rw [if_pos hq]
     have tot:∀ (l:List (V × V)),(∀ e ∈ l,∃ k,e.1 = V.str k) -> ∃ y,iX (eX E 9) (.str q) l = some y:=by
      intro l
      induction l with
      | nil=>intro _; exact ⟨none,rfl⟩
      | cons e l ih=>
       intro hl
       obtain ⟨k1,e1⟩:=hl _ (mem_cons_self ..)
       obtain ⟨a,b⟩:=e
       dsimp only at e1
       subst e1
       rw [iX,bV h]
       by_cases h1:q = k1
       ·rw [gX h1]; exact ⟨_,rfl⟩
       ·rw [gB h1]; exact ih fun e he=>hl e (mem_cons_of_mem _ he)
     obtain ⟨y,hy⟩:=tot r fun e he=>(hs.1 e (mem_cons_of_mem _ he)).1
     rw [hy]
    ·rw [if_neg hq]
     rw [gB hq] at this
     exact this
   obtain ⟨r',e1,s1⟩:=Ee h k hv hs'
   refine ⟨(.str s0,v0) :: r',by rw [jI,bV h,gB hk]; simp only [e1],fun e he=>?_,fun q=>?_⟩
   ·rcases mem_cons.1 he with rfl | he
    ·exact ⟨⟨s0,rfl⟩,i0⟩
    ·exact s1.1 e he
   ·have:=hs.2 q
    show _ = some (if q = k then some v else get q)
    rw [iX,bV h] at this ⊢
    by_cases hq:q = s0
    ·rw [gX hq] at this ⊢
     rw [if_neg (show q ≠ k by rw [hq]; exact Ne.symm hk)]
     exact this
    ·rw [gB hq]
     have h2:=s1.2 q
     dsimp only at h2
     rw [if_neg hq] at h2
     exact h2
def SB (E:Env) (es:List (V × V)) (p:aM -> Bool):Prop:=SM E es fun k=>if p k = true then some (.bool true) else none
theorem Hu:SB E [] fun _=>false:=Ht
theorem Mf (h:bM E) {es:List (V × V)} {p:aM -> Bool} (hs:SB E es p) (k:aM):∃ es',jI (eX E 9) (.str k) (.bool true) es = some es' /\ SB E es' fun q=>p q || decide (q = k):=by
 obtain ⟨es',h1,h2⟩:=Ee h (v:=.bool true) k rfl hs
 refine ⟨es',h1,h2.1,fun q=>(h2.2 q).trans ?_⟩
 show some (if q = k then some (V.bool true) else if p q = true then some (V.bool true) else none) = some (if (p q || decide (q = k)) = true then some (V.bool true) else none)
 by_cases hq:q = k
 ·rw [if_pos hq,decide_eq_true hq,Bool.or_true,if_pos rfl]
 ·rw [if_neg hq,decide_eq_false hq,Bool.or_false]
theorem SB.congr {es:List (V × V)} {p q:aM -> Bool} (hs:SB E es p) (e:∀ k,p k = q k):SB E es q:=by
 rwa [show p = q from funext e] at hs
theorem xD (h:bM E) {Z:Sg} {x:V} {es:List (V × V)} {p:aM -> Bool} (hx:entriesOf Z x = some es) (hs:SB E es p) (k:aM):lookup E Z 98 x (.str k) false = some (.bool (p k)):=by
 have hk:dM E 9 (.str k) = true:=by unfold dM; rw [h.cK]
 unfold Ax.lookup
 simp only [h.qN,h.GY,hk,hx,hs.2 k,Bool.not_true,Bool.false_eq_true,if_false]
 cases p k <;> rfl
theorem Lz (h:bM E) {Z:Sg} {b:Nat} {es:List (V × V)} {p:aM -> Bool} (hb:Z[b]? = some (.map es)) (hs:SB E es p) (k:aM):∃ es',mapUpdate E Z 98 (.mp b) (.str k) (.bool true) = some (Z.set b (.map es')) /\ SB E es' fun q=>p q || decide (q = k):=by
 obtain ⟨es',h1,h2⟩:=Mf h hs k
 have hk:dM E 9 (.str k) = true:=by unfold dM; rw [h.cK]
 refine ⟨es',?_,h2⟩
 unfold Ax.mapUpdate
 simp only [h.qN,hk,hb,h1,eR,V.aW,Bool.not_true,Bool.or_self,Bool.false_eq_true,if_false,Option.map_some]
theorem C_ (h:bM E) {Z:Sg} {b m:Nat} {es:List (V × V)} {get:aM -> Option V} (hb:Z[b]? = some (.map es)) (hs:SM E es get):bN Z E.ty true (m + 2) (.mp b) = some (.imp true es):=by
 rw [bN]
 simp only [hb]
 rw [iQ fun e he=>?_]
 obtain ⟨⟨k,e1⟩,e2⟩:=hs.1 e he
 obtain ⟨a,v⟩:=e
 dsimp only at e1 e2
 subst e1
 have e3:bN Z E.ty true (m + 1) v = some v:=jN e2
 have e4:=dG e2
 have hpc:(V.str k).cells.all Ax.plainCell = true:=rfl
 cases v <;> first
  | (simp only [hpc,e3,e4,if_true]; done)
  | cases e2
theorem C8 (h:bM E) {Z:Sg} {f k b t:Nat} {ex:Bool} {es:List (V × V)} {get:aM -> Option V} (hk:Z[k]? = some (.cells t [.mp b] ex)) (hb:Z[b]? = some (.map es)) (hs:SM E es get):aZ Z E.ty true (.fn f [] [.ref k 0]) = some (.fn f [] [.dB true [.imp true es]]):=by
 refine uZ hk ?_
 simp only [aX,C_ (m:=9) h hb hs,show cH true (V.imp true es) = true from rfl,if_true]
theorem NH (h:bM E) {es:List (V × V)} {p:aM -> Bool} {y:aM} {g g2:Bool} (hs:SB E es p):aB E 145 [.str y,.dB g [.imp g2 es]] [] K = K (.bool (p y)) []:=by
 refine aB.of ?_
 have hi:Ax.bB (.dB g [.imp g2 es]) = true:=rfl
 have ew:=eZ (Z:=[]) (ty:=E.ty) hi (dG hi)
 rw [aH h.Wd h.TV h.WY h.Vl (args':=[.str y,.dB g [.imp g2 es]]) (by simp only [aX,cL,ew]),bD (by kernel_rfl)]
 have hl:=fun Z=>xD (Z:=Z) (x:=.imp g2 es) h rfl hs y
 simp only [aA,Tryz.f145,KP,Ax.loadAt,↓reduceIte,reduceEqDiff,reduceLT,reduceAdd,reduceCtorEq,h.qN,hl]
 exact rfl
theorem NG (h:bM E) {es:List (V × V)} {p:aM -> Bool} {y:aM} {g g2:Bool} (hs:SB E es p):aB E 146 [.str y,.dB g [.imp g2 es]] [] K = K (.bool (!p y)) []:=by
 refine aB.of ?_
 have hi:Ax.bB (.dB g [.imp g2 es]) = true:=rfl
 have ew:=eZ (Z:=[]) (ty:=E.ty) hi (dG hi)
 rw [aH h.Wc h.TU h.WX h.Vk (args':=[.str y,.dB g [.imp g2 es]]) (by simp only [aX,cL,ew]),bD (by kernel_rfl)]
 have hl:=fun Z=>xD (Z:=Z) (x:=.imp g2 es) h rfl hs y
 simp only [aA,Tryz.f146,KP,Ax.loadAt,↓reduceIte,reduceEqDiff,reduceLT,reduceAdd,reduceCtorEq,h.qN,hl]
 exact rfl
end
end
section
section
variable {E:Env} {Z:Sg} {K:V -> Sg -> Prop}
structure mV (E:Env) (Y:Sg) (kr ko mr mo:Nat) (p1 p2:aM -> Bool):Prop where
 b1:Y[kr]? = some (.cells 98 [.mp mr] true)
 b2:Y[ko]? = some (.cells 98 [.mp mo] true)
 m1:∃ es,Y[mr]? = some (.map es) /\ SB E es p1
 m2:∃ es,Y[mo]? = some (.map es) /\ SB E es p2
 ne:mr ≠ mo
theorem mV.app {Y:Sg} {kr ko mr mo:Nat} {p1 p2:aM -> Bool} (h:mV E Y kr ko mr mo p1 p2) (y:O):mV E (Y ++ [y]) kr ko mr mo p1 p2:=by
 obtain ⟨e1,h1,s1⟩:=h.m1
 obtain ⟨e2,h2,s2⟩:=h.m2
 exact ⟨aL h.b1,aL h.b2,⟨e1,aL h1,s1⟩,⟨e2,aL h2,s2⟩,h.ne⟩
theorem oS {Y:Sg} {i j:Nat} {x y:O} (h1:Y[i]? = some x) (h2:Y[j]? = some y) (h:x ≠ y):i ≠ j:=fun e=>h (by rw [e,h2] at h1; exact (Option.some.inj h1).symm)
theorem mV.RS {Y:Sg} {kr ko mr mo:Nat} {p1 p2 q1:aM -> Bool} {es:List (V × V)} (h:mV E Y kr ko mr mo p1 p2) (hs:SB E es q1):mV E (Y.set mr (.map es)) kr ko mr mo q1 p2:=by
 obtain ⟨e1,h1,s1⟩:=h.m1
 obtain ⟨e2,h2,s2⟩:=h.m2
 have n1:=oS h1 h.b1 (by intro e; cases e)
 have n2:=oS h1 h.b2 (by intro e; cases e)
 exact ⟨by rw [getElem?_set_ne n1]; exact h.b1,by rw [getElem?_set_ne n2]; exact h.b2,⟨es,by rw [getElem?_set_self (List.getElem?_eq_some_iff.1 h1).1],hs⟩,⟨e2,by rw [getElem?_set_ne h.ne]; exact h2,s2⟩,h.ne⟩
theorem mV.put2 {Y:Sg} {kr ko mr mo:Nat} {p1 p2 q2:aM -> Bool} {es:List (V × V)} (h:mV E Y kr ko mr mo p1 p2) (hs:SB E es q2):mV E (Y.set mo (.map es)) kr ko mr mo p1 q2:=by
 obtain ⟨e1,h1,s1⟩:=h.m1
 obtain ⟨e2,h2,s2⟩:=h.m2
 have n1:=oS h2 h.b1 (by intro e; cases e)
 have n2:=oS h2 h.b2 (by intro e; cases e)
 exact ⟨by rw [getElem?_set_ne n1]; exact h.b1,by rw [getElem?_set_ne n2]; exact h.b2,⟨e1,by rw [getElem?_set_ne (Ne.symm h.ne)]; exact h1,s1⟩,⟨es,by rw [getElem?_set_self (List.getElem?_eq_some_iff.1 h2).1],hs⟩,h.ne⟩
def h_ (rs:List aF) (k:aM):Bool:=rs.any fun q=>decide (q.name = k)
def uM (rs:List aF) (k:aM):Bool:=rs.any fun q=>decide (k ∈ q.outs)
theorem sL {rs:List aF} {n:aM}:decide (fF rs n = none) = !h_ rs n:=by
 unfold fF h_
 rw [<- b_]
 cases bF (fun r=>decide (r.name = n)) rs <;> rfl
theorem Cp {rs:List aF} {i:Nat} {r:aF} (hr:rs[i]? = some r):nK rs i = (h_ (rs.take i) r.name || r.outs.any (uM (rs.take i))):=by
 unfold nK h_ uM
 rw [hr,Bool.eq_iff_iff]
 simp only [List.any_eq_true,Bool.or_eq_true,decide_eq_true_eq]
 constructor
 ·rintro ⟨q,hq,e | ⟨x,hx,e⟩⟩
  ·exact .inl ⟨q,hq,e⟩
  ·exact .inr ⟨x,hx,q,hq,e⟩
 ·rintro (⟨q,hq,e⟩ | ⟨x,hx,q,hq,e⟩)
  ·exact ⟨q,hq,.inl e⟩
  ·exact ⟨q,hq,.inr ⟨x,hx,e⟩⟩
theorem FN {rs:List aF} {i:Nat} {r:aF} (hr:rs[i]? = some r) (k:aM):h_ (rs.take (i + 1)) k = (h_ (rs.take i) k || decide (k = r.name)):=by
 unfold h_
 rw [oN hr,decide_eq_decide.2 ⟨Eq.symm,Eq.symm⟩]
theorem HC {rs:List aF} {i:Nat} {r:aF} (hr:rs[i]? = some r) (k:aM):uM (rs.take (i + 1)) k = (uM (rs.take i) k || decide (k ∈ r.outs)):=oN hr
theorem UH (h:bM E) {a:V} {rs:List aF} (ia:IS cV a rs) (hs:∀ x ∈ rs,Small x) (hE:fW rs = if f_ rs = true then 2 else 0) (hl:rs.length <= 4294967296) {Y:Sg} {kr ko mr mo:Nat} {p2:aM -> Bool} (bx:mV E Y kr ko mr mo (h_ rs) p2) (F:FT) (g0:F.get 0 = a) (g7:F.get 7 = .ref kr 0) (hk:∀ nm σ',K (.fN [.int .i64 (fW rs),.str nm]) σ') :
  R E (cutAt [1,1,1,1,1] (aA Tryz.f108).code) [] ⟨81,F⟩ Y (lT E (aA Tryz.f108).results K):=by
 have la:=cA h ia
 have d28:=h.Qd
 simp only [aA,Tryz.f108,cutAt,Option.getD_some] at d28
 simp only [aA,Tryz.f108,KP,↓reduceIte,reduceLT,cutAt,g0,la]
 refine aQ (fun i F Y=>F.get 7 = .ref kr 0 /\ F.get 68 = a /\ F.get 69 = .int .i64 (rs.length:Int) /\ F.get 70 = .int .i64 (i:Int) /\ mV E Y kr ko mr mo (h_ rs) p2 /\ ∀ (j:Nat) (r:aF),j < i -> rs[j]? = some r -> r.after.any (fun n=>!h_ rs n) = false) rs.length ?_ ?_ rs.length 0 _ _ (by omega) (gP (by simp +decide only [GS,g7,and_self]) ⟨bx,fun j r hj=>by omega⟩)
 ·rintro i F Y hi ⟨g7,g68,g69,g70,bx,hp⟩ next
  obtain ⟨r,hr⟩:∃ y,rs[i]? = some y:=⟨_,List.getElem?_eq_getElem hi⟩
  obtain ⟨g,p1,p2',p3,p4,e1,i1,i2,i3,i4⟩:=eM h ia hr
  have hsm:=hs r (mem_of_getElem? hr)
  have a3:=hsm.after
  have o1:=aI i1.bB
  have o2:=aI i2.bB
  have o3:=aI i3.bB
  have o4:=aI i4.bB
  have hlt:=dR hi
  have hadd:=bU i (by omega)
  have bx1:=bx.app (O.cells 37 [.str r.name,p1,p2',p3,p4] true)
  have s1:(Y ++ [O.cells 37 [.str r.name,p1,p2',p3,p4] true])[Y.length]? = some (O.cells 37 [.str r.name,p1,p2',p3,p4] true):=aR
  rw [aG]
  simp only [KP,Ax.loadAt,Ax.storeAt,↓reduceIte,reduceEqDiff,reduceLT,reduceAdd,reduceCtorEq,h.aS,h.bE,g7,g68,g69,g70,hlt,e1,o1,o2,o3,o4,aR,cU]
  generalize Y ++ [O.cells 37 [.str r.name,p1,p2',p3,p4] true] = τ1 at *
  generalize Y.length = y at *
  obtain ⟨es,hm,hsb⟩:=bx1.m1
  have ef:=C8 (f:=146) h bx1.b1 hm hsb
  have kf:=dA (fun K=>oM (Z:=τ1) (K:=K) (k:=146) (caps:=[.dB true [.imp true es]]) (P:=fun n=>!h_ rs n) h (i3.ls τ1 9) (by omega) (fun c hc=>by cases hc with | head=>rfl | tail _ hc=>cases hc) (fun y v hy hv=>by
   subst hv
   show aB E 146 [.str y,.dB true [.imp true es]] [] _
   rw [NG h hsb]; exact ⟨rfl,rfl⟩) ef)
  cases m:r.after.any fun n=>!h_ rs n with
  | true=>
   have hstr:f_ rs = true:=by
    unfold f_
    refine List.any_eq_true.2 ⟨r,mem_of_getElem? hr,?_⟩
    rw [<- m]
    exact congrArg (fun f=>r.after.any f) (funext fun n=>sL)
   rw [hE,if_pos hstr] at hk
   simp only [KP,Ax.loadAt,↓reduceIte,reduceEqDiff,reduceLT,reduceCtorEq,h.cK,h.bE,s1,kf,m,bI d28,cB]
   exact hk _ _
  | false=>
  simp only [KP,↓reduceIte,reduceEqDiff,reduceLT,g70,kf,m,hadd]
  refine next _ _ (gP (by simp +decide only [GS,g7,g68,g69,and_self]) ⟨bx1,fun j q hj hq=>?_⟩)
  rcases Nat.lt_or_ge j i with g | g
  ·exact hp j q g hq
  ·obtain rfl:j = i:=by omega
   rw [hr] at hq; cases hq; exact m
 ·rintro F Y ⟨g7,g68,g69,g70,bx,hp⟩
  have hstr:f_ rs = false:=by
   unfold f_
   refine List.any_eq_false.2 fun r hr=>?_
   obtain ⟨j,hj,e⟩:=List.getElem_of_mem hr
   have:=hp j r hj (by rw [List.getElem?_eq_getElem hj,e])
   rw [show (r.after.any fun n=>decide (fF rs n = none)) = r.after.any fun n=>!h_ rs n from congrArg (fun f=>r.after.any f) (funext fun n=>sL),this]
   simp
  rw [hE,if_neg (by rw [hstr]; simp)] at hk
  have hlt:=dS (Nat.lt_irrefl rs.length)
  rw [aG]
  simp only [KP,↓reduceIte,reduceEqDiff,reduceLT,kP,g69,g70,hlt]
  exact hk _ _
end
end
section
section
variable {E:Env} {Z:Sg} {K:V -> Sg -> Prop}
theorem mV.congr {Y:Sg} {kr ko mr mo:Nat} {p1 p2 q1 q2:aM -> Bool} (h:mV E Y kr ko mr mo p1 p2) (e1:∀ k,p1 k = q1 k) (e2:∀ k,p2 k = q2 k):mV E Y kr ko mr mo q1 q2:=by
 rwa [show p1 = q1 from funext e1,show p2 = q2 from funext e2] at h
theorem UG (h:bM E) {a:V} {rs:List aF} (ia:IS cV a rs) (hs:∀ x ∈ rs,Small x) (hE:fW rs = if rN rs = true then 2 else if f_ rs = true then 2 else 0) (hl:rs.length <= 4294967296) {Y:Sg} {kr ko mr mo:Nat} (bx:mV E Y kr ko mr mo (fun _=>false) (fun _=>false)) (F:FT) (g0:F.get 0 = a) (g7:F.get 7 = .ref kr 0) (g8:F.get 8 = .ref ko 0) (hk:∀ nm σ',K (.fN [.int .i64 (fW rs),.str nm]) σ') :
  R E (cutAt [1,1,1,1] (aA Tryz.f108).code) [] ⟨81,F⟩ Y (lT E (aA Tryz.f108).results K):=by
 have la:=cA h ia
 have key:=fun (hE':fW rs = if f_ rs = true then 2 else 0) Y p2 bx F g0 g7=>UH (K:=K) (Y:=Y) (kr:=kr) (ko:=ko) (mr:=mr) (mo:=mo) (p2:=p2) h ia hs hE' hl bx F g0 g7 hk
 rw [show cutAt [1,1,1,1] (aA Tryz.f108).code = .seq (cutAt [1,1,1,1,0] (aA Tryz.f108).code) (cutAt [1,1,1,1,1] (aA Tryz.f108).code) from rfl]
 have d16:=h.Qe
 simp only [aA,Tryz.f108,cutAt,Option.getD_some] at d16
 generalize cutAt [1,1,1,1,1] (aA Tryz.f108).code = C at key ⊢
 simp only [aA,Tryz.f108,KP,↓reduceIte,reduceLT,cutAt,g0,la]
 refine aQ (fun i F Y=>F.get 0 = a /\ F.get 7 = .ref kr 0 /\ F.get 8 = .ref ko 0 /\ F.get 35 = a /\ F.get 36 = .int .i64 (rs.length:Int) /\ F.get 37 = .int .i64 (i:Int) /\ mV E Y kr ko mr mo (h_ (rs.take i)) (uM (rs.take i)) /\ ∀ j,j < i -> nK rs j = false) rs.length ?_ ?_ rs.length 0 _ _ (by omega) (Cr (by simp +decide only [GS,g0,g7,g8,and_self]) ⟨bx,fun j hj=>by omega⟩)
 ·rintro i F Y hi ⟨g0,g7,g8,g35,g36,g37,bx,hp⟩ next
  obtain ⟨r,hr⟩:∃ y,rs[i]? = some y:=⟨_,List.getElem?_eq_getElem hi⟩
  obtain ⟨g,p1,p2',p3,p4,e1,i1,i2,i3,i4⟩:=eM h ia hr
  have hsm:=hs r (mem_of_getElem? hr)
  have a2:=hsm.outs
  have o1:=aI i1.bB
  have o2:=aI i2.bB
  have o3:=aI i3.bB
  have o4:=aI i4.bB
  have hlt:=dR hi
  have hadd:=bU i (by omega)
  have lo:=bK h i2
  have bx1:=bx.app (O.cells 37 [.str r.name,p1,p2',p3,p4] true)
  have s1:(Y ++ [O.cells 37 [.str r.name,p1,p2',p3,p4] true])[Y.length]? = some (O.cells 37 [.str r.name,p1,p2',p3,p4] true):=aR
  rw [aG]
  simp only [KP,Ax.loadAt,Ax.storeAt,↓reduceIte,reduceEqDiff,reduceLT,reduceAdd,h.bE,h.qN,g7,g8,g35,g36,g37,hlt,e1,o1,o2,o3,o4,aR,cU]
  generalize Y ++ [O.cells 37 [.str r.name,p1,p2',p3,p4] true] = τ1 at *
  generalize Y.length = y at *
  obtain ⟨es1,hm1,hsb1⟩:=bx1.m1
  obtain ⟨es2,hm2,hsb2⟩:=bx1.m2
  have bb1:=bx1.b1
  have ef:=C8 (f:=145) h bx1.b2 hm2 hsb2
  have kf:=dA (fun K=>oM (Z:=τ1) (K:=K) (k:=145) (caps:=[.dB true [.imp true es2]]) (P:=uM (rs.take i)) h (i2.ls τ1 9) (by omega) (fun c hc=>by cases hc with | head=>rfl | tail _ hc=>cases hc) (fun y v hy hv=>by
   subst hv
   show aB E 145 [.str y,.dB true [.imp true es2]] [] _
   rw [NH h hsb2]; exact ⟨rfl,rfl⟩) ef)
  have hlk:=xD (Z:=τ1) (x:=.mp mr) h (by unfold entriesOf; simp only [hm1]) hsb1 r.name
  have hcl:=Cp hr
  have yes:nK rs i = true -> fW rs = 2:=fun e=>by
   rw [hE,if_pos]
   exact List.any_eq_true.2 ⟨i,mem_range.2 hi,e⟩
  cases m1:h_ (rs.take i) r.name with
  | true=>
   rw [m1,Bool.true_or] at hcl
   rw [yes hcl] at hk
   simp only [KP,Ax.loadAt,↓reduceIte,reduceEqDiff,reduceLT,reduceCtorEq,h.cK,h.bE,s1,bb1,hlk,m1,bI d16,cB]
   exact hk _ _
  | false=>
  rw [m1,Bool.false_or] at hcl
  cases m2:r.outs.any (uM (rs.take i)) with
  | true=>
   rw [m2] at hcl
   rw [yes hcl] at hk
   simp only [KP,Ax.loadAt,↓reduceIte,reduceEqDiff,reduceLT,reduceCtorEq,h.cK,h.aS,h.bE,s1,bb1,hlk,kf,m1,m2,bI d16,cB]
   exact hk _ _
  | false=>
  rw [m2] at hcl
  obtain ⟨es1',hu,hsb1'⟩:=Lz h hm1 hsb1 r.name
  have bx2:=bx1.RS hsb1'
  have ny:mr ≠ y:=oS hm1 s1 (by intro e; cases e)
  have s2:(τ1.set mr (.map es1'))[y]? = some (O.cells 37 [.str r.name,p1,p2',p3,p4] true):=by rw [getElem?_set_ne ny]; exact s1
  simp only [KP,Ax.loadAt,↓reduceIte,reduceEqDiff,reduceLT,reduceCtorEq,h.cK,h.aS,h.bE,h.qN,g7,s1,bb1,hlk,kf,m1,m2,hu,s2,lo]
  refine aQ (fun j F Y=>F.get 0 = a /\ F.get 7 = .ref kr 0 /\ F.get 8 = .ref ko 0 /\ F.get 35 = a /\ F.get 36 = .int .i64 (rs.length:Int) /\ F.get 37 = .int .i64 (i:Int) /\ F.get 58 = p2' /\ F.get 59 = .int .i64 (r.outs.length:Int) /\ F.get 60 = .int .i64 (j:Int) /\ mV E Y kr ko mr mo (fun k=>h_ (rs.take i) k || decide (k = r.name)) (fun k=>uM (rs.take i) k || decide (k ∈ r.outs.take j))) r.outs.length ?_ ?_ r.outs.length 0 _ _ (by omega) (Ap (by simp +decide only [GS,g0,g7,g8,g35,g36,g37,and_self]) (bx2.congr (fun _=>rfl) (fun k=>by simp)))
  ·rintro j F Y hj ⟨g0,g7,g8,g35,g36,g37,g58,g59,g60,bx⟩ next2
   obtain ⟨s,hsj⟩:∃ y,r.outs[j]? = some y:=⟨_,List.getElem?_eq_getElem hj⟩
   obtain ⟨g',e2⟩:=fJ h i2 hsj
   have hlt2:=dR hj
   have hadd2:=bU j (by omega)
   obtain ⟨es3,hm3,hsb3⟩:=bx.m2
   obtain ⟨es3',hu3,hsb3'⟩:=Lz h hm3 hsb3 s
   have bb2:=bx.b2
   rw [aG]
   simp only [KP,Ax.loadAt,↓reduceIte,reduceEqDiff,reduceLT,h.cK,h.qN,g8,g58,g59,g60,hlt2,e2,bb2,hu3,hadd2]
   refine next2 _ _ (Ap (by simp +decide only [GS,g0,g7,g8,g35,g36,g37,g58,g59,and_self]) ((bx.put2 hsb3').congr (fun _=>rfl) (fun k=>?_)))
   rw [take_add_one,hsj,Bool.or_assoc,Bool.eq_iff_iff]
   simp
  ·rintro F Y ⟨g0,g7,g8,g35,g36,g37,g58,g59,g60,bx⟩
   rw [take_of_length_le (Nat.le_refl _)] at bx
   have hlt2:=dS (Nat.lt_irrefl r.outs.length)
   rw [aG]
   simp only [KP,↓reduceIte,reduceEqDiff,reduceLT,g37,g59,g60,hlt2,hadd]
   refine next _ _ (Cr (by simp +decide only [GS,g0,g7,g8,g35,g36,and_self]) ⟨bx.congr (fun k=>(FN hr k).symm) (fun k=>(HC hr k).symm),fun j hj=>?_⟩)
   rcases Nat.lt_or_ge j i with g | g
   ·exact hp j g
   ·obtain rfl:j = i:=by omega
    exact hcl
 ·rintro F Y ⟨g0,g7,g8,g35,g36,g37,bx,hp⟩
  have hcl:rN rs = false:=List.any_eq_false.2 fun j hj=>by rw [hp j (mem_range.1 hj)]; simp
  rw [if_neg (by rw [hcl]; simp)] at hE
  rw [take_of_length_le (Nat.le_refl _)] at bx
  have hlt:=dS (Nat.lt_irrefl rs.length)
  rw [aG]
  simp only [KP,↓reduceIte,reduceLT,g36,g37,hlt]
  exact key hE _ _ bx _ (by simp +decide only [GS,g0]) (by simp +decide only [GS,g7])
end
end
section
section
variable {E:Env} {Z:Sg} {K:V -> Sg -> Prop}
theorem tZ {Y:Sg} {a b c d:O} {n:Nat}:(Y ++ [a] ++ [b] ++ [c] ++ [d])[Y.length + n]? = [a,b,c,d][n]?:=by
 rw [append_assoc,append_assoc,append_assoc,List.getElem?_append_right (by omega),Nat.add_sub_cancel_left]
 rfl
theorem Nh {Y:Sg} {a b c d x:O}:(Y ++ [a] ++ [b] ++ [c] ++ [d]).set (Y.length + 2) x = Y ++ [a] ++ [b] ++ [x] ++ [d]:=by
 rw [append_assoc,append_assoc,append_assoc,List.set_append_right _ _ (by omega),Nat.add_sub_cancel_left,append_assoc,append_assoc,append_assoc]
 rfl
theorem KL {Y:Sg} {a b c d x:O}:(Y ++ [a] ++ [b] ++ [c] ++ [d]).set (Y.length + 3) x = Y ++ [a] ++ [b] ++ [c] ++ [x]:=by
 rw [append_assoc,append_assoc,append_assoc,List.set_append_right _ _ (by omega),Nat.add_sub_cancel_left,append_assoc,append_assoc,append_assoc]
 rfl
theorem HT {Y:Sg} {a b c:O}:(Y ++ [a]).length = Y.length + 1 /\ (Y ++ [a] ++ [b]).length = Y.length + 2 /\ (Y ++ [a] ++ [b] ++ [c]).length = Y.length + 3:=by simp
theorem JI (h:bM E) {a:V} {rs:List aF} (ha:LS cV 37 Z a rs) (hs:∀ x ∈ rs,Small x) (hl:rs.length <= 4294967296):aB E 108 [a] Z fun v σ'=>σ' = Z /\ ∃ nm,v = .fN [.int .i64 (fW rs),.str nm]:=by
 obtain ⟨a',ea,ia⟩:=dW h ha
 rw [aH h.Wm h.T4 h.Xa h.Vu (args':=[a']) (by simp only [aX,ea]),bD (by kernel_rfl)]
 have la:=cA h ia
 have key:=fun hE Y kr ko mr mo bx F g0 g7 g8=>UG (K:=fun v σ1=>match cT σ1 E.ty false v with
   | some v=>∃ nm,v = .fN [.int .i64 (fW rs),.str nm]
   | none=>False) (Y:=Y) (kr:=kr) (ko:=ko) (mr:=mr) (mo:=mo) h ia hs hE hl bx F g0 g7 g8 (fun nm σ'=>⟨nm,rfl⟩)
 rw [show (aA Tryz.f108).code = .seq (cutAt [0] (aA Tryz.f108).code) (.seq (cutAt [1,0] (aA Tryz.f108).code) (.seq (cutAt [1,1,0] (aA Tryz.f108).code) (.seq (cutAt [1,1,1,0] (aA Tryz.f108).code) (cutAt [1,1,1,1] (aA Tryz.f108).code)))) from rfl]
 have d6:=h.SI
 simp only [aA,Tryz.f108,cutAt,Option.getD_some] at d6
 generalize cutAt [1,1,1,1] (aA Tryz.f108).code = C at key ⊢
 simp only [aA,Tryz.f108,KP,↓reduceIte,reduceLT,reduceCtorEq,kP,cutAt,la]
 refine aQ (fun i F Y=>F.get 0 = a' /\ F.get 16 = a' /\ F.get 17 = .int .i64 (rs.length:Int) /\ F.get 18 = .int .i64 (i:Int) /\ ∀ (j:Nat) (r:aF),j < i -> rs[j]? = some r -> aY r = 0) rs.length ?_ ?_ rs.length 0 _ _ (by omega) (gP (by simp +decide only [GS,and_self]) (fun j r hj=>by omega))
 ·rintro i F Y hi ⟨g0,g16,g17,g18,hp⟩ next
  obtain ⟨r,hr⟩:∃ y,rs[i]? = some y:=⟨_,List.getElem?_eq_getElem hi⟩
  obtain ⟨g,p1,p2,p3,p4,e1,i1,i2,i3,i4⟩:=eM h ia hr
  have hsm:=hs r (mem_of_getElem? hr)
  have o1:=aI i1.bB
  have o2:=aI i2.bB
  have o3:=aI i3.bB
  have o4:=aI i4.bB
  have hlt:=dR hi
  have hadd:=bU i (by omega)
  have s1:(Y ++ [O.cells 37 [.str r.name,p1,p2,p3,p4] true])[Y.length]? = some (O.cells 37 [.str r.name,p1,p2,p3,p4] true):=aR
  have kr:=fun (Y:Sg)=>PD (Z:=Y) h (v:=.agg [.str r.name,p1,p2,p3,p4]) ⟨p1,p2,p3,p4,rfl,i1,i2,i3,i4⟩ hsm
  rw [aG]
  simp only [KP,Ax.loadAt,Ax.storeAt,↓reduceIte,reduceEqDiff,reduceLT,reduceAdd,h.bE,g16,g17,g18,hlt,e1,o1,o2,o3,o4,aR,cU]
  generalize Y ++ [O.cells 37 [.str r.name,p1,p2,p3,p4] true] = τ1 at *
  generalize Y.length = y at *
  by_cases he:aY r = 0
  ·have q:=decide_eq_true he
   simp only [KP,↓reduceIte,reduceEqDiff,reduceLT,g18,kr,q,hadd]
   refine next _ _ (gP (by simp +decide only [GS,g0,g16,g17,and_self]) (fun j x hj hx=>?_))
   rcases Nat.lt_or_ge j i with g | g
   ·exact hp j x g hx
   ·obtain rfl:j = i:=by omega
    rw [hr] at hx; cases hx; exact he
  ·have q:=decide_eq_false he
   rw [zF hr he fun j s hj hx=>hp j s hj hx]
   simp only [KP,Ax.loadAt,↓reduceIte,reduceEqDiff,reduceLT,reduceCtorEq,h.cK,h.bE,s1,kr,q,bI d6,cB]
   exact ⟨r.name,rfl⟩
 ·rintro F Y ⟨g0,g16,g17,g18,hp⟩
  have hE:=xM fun j s hx=>hp j s (List.getElem?_eq_some_iff.1 hx).1 hx
  have hlt:=dS (Nat.lt_irrefl rs.length)
  rw [aG]
  by_cases h40:40 < rs.length
  ·have q:decide ((40:Int) < (rs.length:Int)) = true:=decide_eq_true (by omega)
   rw [if_pos h40] at hE
   rw [hE]
   simp only [KP,↓reduceIte,reduceEqDiff,reduceLT,reduceCtorEq,kP,g0,g17,g18,hlt,la,q]
   exact ⟨[],rfl⟩
  ·have q:decide ((40:Int) < (rs.length:Int)) = false:=decide_eq_false (by omega)
   rw [if_neg h40] at hE
   have n1:=(HT (Y:=Y) (a:=.map []) (b:=.map []) (c:=.cells 98 [.bS] true)).1
   have n2:=(HT (Y:=Y) (a:=.map []) (b:=.map []) (c:=.cells 98 [.bS] true)).2.1
   have n3:=(HT (Y:=Y) (a:=.map []) (b:=.map []) (c:=.cells 98 [.bS] true)).2.2
   have q1:(Y ++ [O.map []] ++ [O.map []] ++ [O.cells 98 [.bS] true] ++ [O.cells 98 [.bS] true])[Y.length + 2]? = some (O.cells 98 [.bS] true):=tZ
   have q2:(Y ++ [O.map []] ++ [O.map []] ++ [O.cells 98 [.mp Y.length] true] ++ [O.cells 98 [.bS] true])[Y.length + 3]? = some (O.cells 98 [.bS] true):=tZ
   simp only [KP,Ax.storeAt,↓reduceIte,reduceEqDiff,reduceLT,reduceCtorEq,h.qN,g0,g17,g18,hlt,la,q,n1,n2,n3,q1,q2,Nh,KL]
   refine key hE _ (Y.length + 2) (Y.length + 3) Y.length (Y.length + 1) ⟨tZ,tZ,⟨[],tZ (n:=0),Hu⟩,⟨[],tZ,Hu⟩,by omega⟩ _ ?_ ?_ ?_
   ·exact (by simp +decide only [GS,g0])
   ·exact (by simp +decide only [GS])
   ·exact (by simp +decide only [GS])
end
end
section
section
variable {E:Env} {Z:Sg} {K:V -> Sg -> Prop}
theorem DA {lt:List V -> List V -> Bool} (x:List V):∀ l,(Gf lt x l).Perm (x :: l)
 | []=>.refl _
 | y :: r=>by
  rw [Gf]
  split
  ·exact .refl _
  ·exact ((DA x r).cons y).trans (.swap x y r)
theorem B8 {lt:List V -> List V -> Bool}:∀ (l acc:List (List V)),(l.foldl (fun acc x=>Gf lt x acc) acc).Perm (l ++ acc)
 | [],acc=>.refl _
 | x :: l,acc=>by
  rw [List.foldl_cons]
  refine (B8 l _).trans ?_
  exact ((DA x acc).append_left l).trans List.perm_middle
theorem Hp {lt:List V -> List V -> Bool} (l:List (List V)):(lV lt l).Perm l:=by
 have:=B8 (lt:=lt) l []
 rwa [List.append_nil] at this
def E4:List V -> aM
 | [.str s]=>s
 | _=>[]
theorem AQ:∀ {rs:List (List V)} {l:List aM},eN aJ.P rs l -> rs = l.map fun s=>[V.str s]
 | _,_,.nil=>rfl
 | _,_,.cons h t=>by rw [map_cons,AQ t,show _ = [V.str _] from h]
theorem tS:∀ l:List aM,eN aJ.P (l.map fun s=>[V.str s]) l
 | []=>.nil
 | _ :: l=>.cons rfl (tS l)
theorem zB:∀ l:List aM,((l.map fun s=>[V.str s]).flatten).map (fun v=>[v]) = l.map fun s=>[V.str s]
 | []=>rfl
 | s :: l=>by simp only [map_cons,List.flatten_cons,List.map_append,zB l]; rfl
theorem Au:∀ {l:List aM},(∀ s ∈ l,s.length <= 9223372036854775807) -> allRows jZ (l.map fun s=>[V.str s]) = true
 | [],_=>rfl
 | s :: l,h=>by
  have h1:jZ [V.str s] = true:=Nat.ble_eq_true_of_le (h s (mem_cons_self ..))
  rw [map_cons,allRows,h1]
  exact Au fun x hx=>h x (mem_cons_of_mem _ hx)
theorem C3:∀ {rows:List (List V)},(∀ r ∈ rows,∃ s,r = [V.str s]) -> rows = (rows.map E4).map fun s=>[V.str s]
 | [],_=>rfl
 | r :: rows,h=>by
  obtain ⟨s,e⟩:=h r (mem_cons_self ..)
  rw [map_cons,map_cons,<- C3 fun x hx=>h x (mem_cons_of_mem _ hx),e]
  rfl
theorem tX {Z:Sg} {w:V} {l:List aM} (ow:bH aJ 9 Z w l) (hl:l.length <= 1000000) (hs:∀ s ∈ l,s.length <= 9223372036854775807):∃ σ' l',oF 9 [w] Z = some (.fN [],σ') /\ l'.Perm l /\ bH aJ 9 σ' w l' /\ Sp Z σ' w /\ σ'.length = Z.length:=by
 rcases ow with ⟨rfl,rfl⟩ | ⟨b,rs,ex,rfl,hb,ha⟩
 ·exact ⟨Z,[],rfl,.refl _,.inl ⟨rfl,rfl⟩,Sp.refl _ _,rfl⟩
 ·obtain rfl:=AQ ha
  have hp:(lV strLt (l.map fun s=>[V.str s])).Perm (l.map fun s=>[V.str s]):=Hp _
  have he:((lV strLt (l.map fun s=>[V.str s])).map E4).Perm l:=by
   have:=hp.map E4
   rwa [List.map_map,show E4 ∘ (fun s=>[V.str s]) = id from rfl,List.map_id] at this
  have hr:lV strLt (l.map fun s=>[V.str s]) = ((lV strLt (l.map fun s=>[V.str s])).map E4).map fun s=>[V.str s]:=by
   refine C3 fun r hr=>?_
   obtain ⟨s,-,e⟩:=mem_map.1 (hp.mem_iff.1 hr)
   exact ⟨s,e.symm⟩
  have hlen:((l.map fun s=>[V.str s]).flatten).length = l.length:=by
   have:=congrArg List.length (zB l)
   rwa [length_map,length_map] at this
  refine ⟨Z.set b (.cells 9 (lV strLt (l.map fun s=>[V.str s])).flatten ex),_,?_,he,.inr ⟨b,_,ex,?_,?_,tS _⟩,?_,?_⟩
  ·unfold oF
   simp only [hb,zB,Au hs,show Nat.beq 9 9 = true from rfl,hlen,Nat.ble_eq_true_of_le hl,show Nat.beq l.length l.length = true from Nat.beq_refl _]
  ·rw [length_map,hp.length_eq,length_map]
  ·rw [getElem?_set_self (List.getElem?_eq_some_iff.1 hb).1,<- hr]
  ·intro c o hc hn
   rw [getElem?_set_ne (fun e=>hn (by rw [<- e]; rfl))]
   exact hc
  ·rw [length_set]
end
end
section
section
variable {E:Env} {Z:Sg} {K:V -> Sg -> Prop}
def OL (Y:Sg) (v:V) (l:List aM):Prop:=(v = .aC /\ l = []) \/ ∃ b cs ex,v = .sl b 0 l.length none /\ Y[b]? = some (.cells 9 cs ex) /\ cs.take l.length = l.map V.str
theorem Cb:∀ l:List aM,(l.map fun s=>[V.str s]).flatten = l.map V.str
 | []=>rfl
 | s :: l=>by simp only [map_cons,List.flatten_cons,Cb l]; rfl
theorem Gd (h:bM E) {b off n k:Nat} (hk:k < n):indexAddr E 28 (.sl b off n none) (.int .i64 (k:Int)) = some (.ref b (off + k)):=by
 unfold Ax.indexAddr
 simp only [h.aS,h.cK,show ¬ ((k:Int) < 0) by omega,if_false,Int.toNat_natCast,hk,if_true,Nat.mul_one]
theorem Jj (h:bM E) {Y:Sg} {b j:Nat} {A:List aM} {ex:Bool} {s:aM} (hb:Y[b]? = some (O.cells 9 (A.map V.str) ex)) (hj:A[j]? = some s):loadAt E Y 9 (.ref b j) = some (.str s):=by
 unfold Ax.loadAt
 have e:(A.map V.str)[j]? = some (.str s):=by rw [List.getElem?_map,hj]; rfl
 simp only [h.cK,hb,e,Ax.isAgg]
 rfl
theorem wH:∀ (A:List aM) (j:Nat) (s:aM),j < A.length -> setCells (A.map V.str) j [.str s] = (A.set j s).map V.str
 | [],_,_,h=>absurd h (by simp)
 | a :: A,0,s,_=>rfl
 | a :: A,j + 1,s,h=>by
  have:=wH A j s (by simpa using h)
  simp only [map_cons,List.set_cons_succ,<- this]
  rfl
theorem Tr (h:bM E) {Y:Sg} {b j:Nat} {A:List aM} {ex:Bool} {s:aM} (hb:Y[b]? = some (O.cells 9 (A.map V.str) ex)) (hj:j < A.length):storeAt E Y 9 (.ref b j) (.str s) = some (Y.set b (O.cells 9 ((A.set j s).map V.str) ex)):=by
 unfold Ax.storeAt
 have e:decide (j + 1 <= (A.map V.str).length) = true:=decide_eq_true (by rw [length_map]; omega)
 simp only [h.cK,hb,V.cells,length_cons,length_nil,List.all_cons,List.all_nil,V.aW,e,wH A j s hj]
 rfl
theorem MV (h:bM E) {Y:Sg} {b off n:Nat}:lenOf E Y 28 (.sl b off n none) = some n:=by unfold lenOf; rw [h.aS]
theorem Jy (h:bM E) {Y:Sg} {b n k:Nat} {A:List aM} {ex:Bool} (hb:Y[b]? = some (O.cells 9 (A.map V.str) ex)) (hn:n = A.length) (hk:k < n):Ax.slice E Y 28 (.sl b 0 n none) (some (.int .i64 (k:Int))) none none = some (.sl b k (n - k) none):=by
 unfold Ax.slice
 simp only [h.aS,h.cK,hb,bound,show decide (0 <= (k:Int)) = true from decide_eq_true (by omega),show decide ((k:Int) <= (n:Int)) = true from decide_eq_true (by omega),Bool.and_self,if_true,Int.toNat_natCast,Nat.zero_add]
 show (if (1:Nat) = 0 then none else if (!(9 == 9)) = true then none else if k * 1 < (A.map V.str).length then some (V.sl b (k * 1) (n - k) none) else _) = _
 rw [if_neg (by decide),if_neg (by decide),if_pos (by rw [length_map]; omega),Nat.mul_one]
theorem Oi (h:bM E) {Y:Sg} {b n k:Nat} {cs:List V} {ex:Bool} (hb:Y[b]? = some (.cells 9 cs ex)) (hn:n = cs.length) (hk:k < n):Ax.slice E Y 28 (.sl b 0 n none) none (some (.int .i64 (k:Int))) none = some (.sl b 0 k none):=by
 unfold Ax.slice
 simp only [h.aS,h.cK,hb,bound,E7,show decide (0 <= (k:Int)) = true from decide_eq_true (by omega),Int.toNat_natCast,Nat.zero_mul,Nat.add_zero,Nat.sub_zero,Bool.true_and]
 show (if (1:Nat) = 0 then none else if (!(9 == 9)) = true then none else match if decide ((k:Int) <= ((cs.length / 1:Nat):Int)) = true then some k else none with
  | none=>none
  | some h=>if 0 < cs.length then some (V.sl b 0 h none) else _) = _
 rw [if_neg (by decide),if_neg (by decide),if_pos (by rw [Nat.div_one]; exact decide_eq_true (by omega))]
 show (if 0 < cs.length then some (V.sl b 0 k none) else _) = _
 rw [if_pos (by omega)]
theorem Nw (h:bM E) {Y:Sg} {b n k:Nat} {A:List aM} {ex:Bool} (hb:Y[b]? = some (O.cells 9 (A.map V.str) ex)) (hn:n = A.length) (hk:k < n):∃ cs,Ax.builtin E Y .clear #[28] [.sl b k (n - k) none] = some (.fN [],Y.set b (.cells 9 cs ex)) /\ cs.take k = (A.take k).map V.str /\ cs.length = n:=by
 have hne:¬ n - k = 0:=by omega
 have hle:decide (k + (n - k) * 1 <= (A.map V.str).length) = true:=decide_eq_true (by rw [length_map]; omega)
 refine ⟨setCells (A.map V.str) k (gR (n - k) [.str []]),?_,?_,?_⟩
 ·unfold Ax.builtin
  show (match E.ty 28 with
   | some { kd:=.sl e,.. }=>match E.ty e,Y[b]? with
    | some i,some (.cells u cs ex)=>
     if n - k = 0 then some (V.fN [],Y)
     else if u == e && decide (k + (n - k) * i.size <= cs.length) then some (V.fN [],Y.set b (.cells u (setCells cs k (gR (n - k) i.zero.cells)) ex)) else none
    | _,_=>none
   | _=>none) = _
  simp only [h.aS,h.cK,hb,hne,if_false]
  rw [hle]
  rfl
 ·rw [List.map_take]
  clear hle hne
  unfold setCells
  rw [append_assoc,List.take_append_of_le_length (by rw [length_take,length_map]; omega),List.take_take,Nat.min_self]
 ·have hr:∀ m,(gR m [V.str []]).length = m:=fun m=>by
   induction m with
   | zero=>rfl
   | succ m ih=>rw [gR,length_append,ih]; simp; omega
  unfold setCells
  simp only [length_append,length_take,List.length_drop,length_map,hr]
  omega
end
end
section
section
variable {E:Env} {Z:Sg} {K:V -> Sg -> Prop}
theorem Sp.set {Z Y:Sg} {w:V} {b:Nat} {y:O} (h:Sp Z Y w) (hb:aT w = some b):Sp Z (Y.set b y) w:=fun c o hc hn=>by
 rw [getElem?_set_ne (fun e=>hn (by rw [hb,e]))]
 exact h c o hc hn
theorem dQ {l:List aM} {k:Nat} {u:aM} (hu:l[k]? = some u) (x:aM):x ∈ l.take (k + 1) ↔ x ∈ l.take k \/ x = u:=by
 rw [take_add_one,hu]; simp
theorem DP (h:bM E) {w:V} {l:List aM} (ow:bH aJ 9 Z w l) (hl:l.length <= 1000000):aB E 110 [w] Z fun v σ'=>(∃ l',OL σ' v l' /\ l'.length <= l.length /\ ∀ x,x ∈ l' ↔ x ∈ l) /\ (∀ c,aT v = some c -> aT w = some c) /\ Sp Z σ' w /\ σ'.length = Z.length:=by
 rw [fK h.Wk h.T2 h.W9 h.Vs,bD (by kernel_rfl)]
 rcases ow with ⟨rfl,rfl⟩ | ⟨b,rs,ex,rfl,hb,ha⟩
 ·have ln:lenOf E Z 28 .aC = some 0:=by unfold lenOf; rw [h.aS]
  simp only [aA,Tryz.f110,KP,↓reduceIte,reduceLT,reduceCtorEq,Int.reduceLT,ln]
  exact ⟨⟨[],.inl ⟨rfl,rfl⟩,Nat.le_refl _,fun x=>Iff.rfl⟩,fun c hc=>hc,Sp.refl _ _⟩
 obtain rfl:=AQ ha
 rw [Cb] at hb
 have hls:OL Z (.sl b 0 l.length none) l:=.inr ⟨b,_,ex,rfl,hb,take_of_length_le (by rw [length_map]; exact Nat.le_refl _)⟩
 have lw:∀ Y,lenOf E Y 28 (.sl b 0 l.length none) = some l.length:=fun Y=>MV h
 by_cases h2:l.length < 2
 ·have q:decide ((l.length:Int) < 2) = true:=decide_eq_true (by omega)
  simp only [aA,Tryz.f110,KP,↓reduceIte,reduceLT,reduceCtorEq,lw,q]
  exact ⟨⟨l,hls,Nat.le_refl _,fun x=>Iff.rfl⟩,fun c hc=>hc,Sp.refl _ _⟩
 have q:decide ((l.length:Int) < 2) = false:=decide_eq_false (by omega)
 have d6:=h.SH
 simp only [aA,Tryz.f110,cutAt,Option.getD_some] at d6
 have d11:=h.Qc
 simp only [aA,Tryz.f110,cutAt,Option.getD_some] at d11
 simp only [aA,Tryz.f110,KP,↓reduceIte,reduceLT,reduceCtorEq,lw,q]
 refine aQ (fun i F Y=>Y = Z /\ F.get 0 = .sl b 0 l.length none /\ F.get 3 = .int .i64 ((i + 1:Nat):Int)) (l.length - 1) ?_ ?_ (l.length - 1) 0 _ _ (by omega) ⟨rfl,(by simp +decide only [GS]),(by simp +decide only [GS]; rfl)⟩
 ·rintro i F Y hi ⟨rfl,g0,g3⟩ next
  obtain ⟨x,hx⟩:∃ x,l[i + 1]? = some x:=⟨_,List.getElem?_eq_getElem (by omega)⟩
  obtain ⟨y,hy⟩:∃ y,l[i]? = some y:=⟨_,List.getElem?_eq_getElem (by omega)⟩
  have hlt:=dR (show i + 1 < l.length by omega)
  have hdn:=CZ (i + 1) (by omega) (by omega)
  rw [Nat.add_sub_cancel] at hdn
  have hadd:=bU (i + 1) (by omega)
  have e1:=Gd (b:=b) (off:=0) h (show i + 1 < l.length by omega)
  have e2:=Gd (b:=b) (off:=0) h (show i < l.length by omega)
  rw [Nat.zero_add] at e1 e2
  have e3:=Jj h hb hx
  have e4:=Jj h hb hy
  rw [aG]
  by_cases hxy:x = y
  case neg=>
   have hs:=gB hxy
   simp only [KP,↓reduceIte,reduceEqDiff,reduceLT,reduceCtorEq,g0,g3,lw,hlt,hdn,hadd,e1,e2,e3,e4,hs,bI d6,cB]
   exact next _ _ ⟨rfl,(by simp +decide only [GS,g0,and_self])⟩
  have hs:=gX hxy
  have e5:=Jy h hb rfl (show i + 1 < l.length by omega)
  simp only [KP,↓reduceIte,reduceEqDiff,reduceLT,reduceCtorEq,g0,g3,lw,hlt,hdn,e1,e2,e3,e4,e5,hs,bI d6,cB]
  have hly:y ∈ l.take (i + 1):=mem_of_getElem? (by rw [List.getElem?_take_of_lt (Nat.lt_succ_self i)]; exact hy)
  have bo:aT (.sl b 0 l.length none) = some b:=rfl
  have lw2:∀ Y,lenOf E Y 28 (.sl b (i + 1) (l.length - (i + 1)) none) = some (l.length - (i + 1)):=fun Y=>MV h
  refine aQ (fun j F τ'=>F.get 0 = .sl b 0 l.length none /\ F.get 4 = .sl b (i + 1) (l.length - (i + 1)) none /\ F.get 5 = .int .i64 ((j + 1:Nat):Int) /\ Sp Y τ' (.sl b 0 l.length none) /\ τ'.length = Y.length /\ ∃ (A:List aM) (K:Nat),τ'[b]? = some (O.cells 9 (A.map V.str) ex) /\ A.length = l.length /\ F.get 3 = .int .i64 (K:Int) /\ i + 1 <= K /\ K <= i + 1 + j /\ (∀ p,i + 1 + j <= p -> A[p]? = l[p]?) /\ ∀ x,x ∈ A.take K ↔ x ∈ l.take (i + 1 + j + 1)) (l.length - (i + 1) - 1) ?_ ?_ (l.length - (i + 1) - 1) 0 _ _ (by omega) (kW (by simp +decide only [GS,g0,and_self]) ⟨(by simp +decide only [GS]; rfl),Sp.refl _ _,rfl,l,i + 1,hb,rfl,(by simp +decide only [GS,g3]),Nat.le_refl _,Nat.le_refl _,fun p _=>rfl,fun z=>by
   rw [dQ (k:=i + 1 + 0) (u:=x) hx]
   constructor
   ·exact .inl
   ·rintro (g | rfl)
    ·exact g
    ·rw [hxy]; exact hly⟩)
  ·rintro j F τ' hj ⟨g0,g4,g5,sp,hlen,A,K,hA,hAl,g3,hK1,hK2,hag,hmem⟩ next2
   obtain ⟨u,hu⟩:∃ u,l[i + 1 + j + 1]? = some u:=⟨_,List.getElem?_eq_getElem (by omega)⟩
   obtain ⟨v,hv⟩:∃ v,l[i + 1 + j]? = some v:=⟨_,List.getElem?_eq_getElem (by omega)⟩
   have hu':A[i + 1 + (j + 1)]? = some u:=(hag _ (by omega)).trans hu
   have hv':A[i + 1 + j]? = some v:=(hag _ (by omega)).trans hv
   have hlt2:=dR (show j + 1 < l.length - (i + 1) by omega)
   have hdn2:=CZ (j + 1) (by omega) (by omega)
   rw [Nat.add_sub_cancel] at hdn2
   have hadd2:=bU (j + 1) (by omega)
   have hadd3:=bU K (by omega)
   have f1:=Gd (b:=b) (off:=i + 1) h (show j + 1 < l.length - (i + 1) by omega)
   have f2:=Gd (b:=b) (off:=i + 1) h (show j < l.length - (i + 1) by omega)
   have f3:=Jj h hA hu'
   have f4:=Jj h hA hv'
   have f5:=Gd (b:=b) (off:=0) h (show K < l.length by omega)
   rw [Nat.zero_add] at f5
   have f6:=Tr (s:=u) h hA (show K < A.length by omega)
   have hms:∀ z,z ∈ l.take (i + 1 + (j + 1) + 1) ↔ z ∈ l.take (i + 1 + j + 1) \/ z = u:=dQ hu
   rw [aG]
   by_cases huv:u = v
   ·have hs2:=gX huv
    simp only [KP,↓reduceIte,reduceEqDiff,reduceLT,g4,g5,lw2,hlt2,hdn2,hadd2,f1,f2,f3,f4,hs2,bI d11,cB]
    refine next2 _ _ (iZ (by simp +decide only [GS,g0,g4,and_self]) ⟨sp,hlen,A,K,hA,hAl,(by simp +decide only [GS,g3]),hK1,by omega,fun p hp=>hag p (by omega),fun z=>?_⟩)
    rw [hms,hmem]
    constructor
    ·exact .inl
    ·rintro (g | rfl)
     ·exact g
     ·rw [huv]
      exact mem_of_getElem? (by rw [List.getElem?_take_of_lt (Nat.lt_succ_self (i + 1 + j))]; exact hv)
   ·have hs2:=gB huv
    simp only [KP,↓reduceIte,reduceEqDiff,reduceLT,reduceCtorEq,g0,g3,g4,g5,lw2,hlt2,hdn2,hadd2,hadd3,f1,f2,f3,f4,f5,f6,hs2,bI d11,cB]
    refine next2 _ _ (iZ (by simp +decide only [GS,g0,g4,and_self]) ⟨Sp.set sp bo,by rw [length_set]; exact hlen,A.set K u,K + 1,by rw [getElem?_set_self (List.getElem?_eq_some_iff.1 hA).1],by rw [length_set]; exact hAl,(by simp +decide only [GS]),by omega,by omega,fun p hp=>?_,fun z=>?_⟩)
    ·rw [getElem?_set_ne (by omega)]; exact hag p (by omega)
    ·rw [hms,<- hmem,dQ (u:=u) (by rw [getElem?_set_self (by omega)]),List.take_set_of_le (Nat.le_refl K)]
  ·rintro F τ' ⟨g0,g4,g5,sp,hlen,A,K,hA,hAl,g3,hK1,hK2,hag,hmem⟩
   have hlt2:=dS (show ¬ l.length - (i + 1) - 1 + 1 < l.length - (i + 1) by omega)
   have f1:=Jy h hA hAl.symm (show K < l.length by omega)
   obtain ⟨cs,f2,f3,f4⟩:=Nw h hA hAl.symm (show K < l.length by omega)
   have hA2:(τ'.set b (.cells 9 cs ex))[b]? = some (.cells 9 cs ex):=by rw [getElem?_set_self (List.getElem?_eq_some_iff.1 hA).1]
   have f5:=Oi h hA2 f4.symm (show K < l.length by omega)
   have hKl:(A.take K).length = K:=by rw [length_take]; omega
   rw [aG]
   simp only [KP,↓reduceIte,reduceEqDiff,reduceLT,reduceCtorEq,g0,g3,g4,g5,lw2,hlt2,f1,f2,f5]
   refine ⟨⟨A.take K,.inr ⟨b,cs,ex,by rw [hKl],hA2,by rw [hKl]; exact f3⟩,by rw [hKl]; omega,fun z=>?_⟩,fun c hc=>hc,Sp.set sp bo,by rw [length_set]; exact hlen⟩
   ·rw [hmem,show i + 1 + (l.length - (i + 1) - 1) + 1 = l.length by omega,take_of_length_le (Nat.le_refl _)]
 ·rintro F Y ⟨rfl,g0,g3⟩
  have hlt:=dS (show ¬ l.length - 1 + 1 < l.length by omega)
  rw [aG]
  simp only [KP,↓reduceIte,reduceEqDiff,reduceLT,reduceCtorEq,g0,g3,lw,hlt]
  exact ⟨⟨l,hls,Nat.le_refl _,fun x=>Iff.rfl⟩,fun c hc=>hc,Sp.refl _ _⟩
end
end
section
section
variable {E:Env} {Z:Sg} {K:V -> Sg -> Prop}
def MK (get:aM -> Option V) (P:aM -> aM -> Prop):Prop:=∀ k,(get k = none /\ ∀ n,¬ P k n) \/ ∃ n,P k n /\ get k = some (.str n)
theorem MK.nil:MK (fun _=>none) fun _ _=>False:=fun _=>.inl ⟨rfl,fun _ h=>h⟩
theorem MK.put {get:aM -> Option V} {P:aM -> aM -> Prop} (h:MK get P) (k n:aM):MK (fun q=>if q = k then some (.str n) else get q) fun q m=>P q m \/ (q = k /\ m = n):=fun q=>by
 by_cases hq:q = k
 ·exact .inr ⟨n,.inr ⟨hq,rfl⟩,if_pos hq⟩
 ·rcases h q with ⟨h1,h2⟩ | ⟨m,h1,h2⟩
  ·exact .inl ⟨(if_neg hq).trans h1,fun m hm=>hm.elim (h2 m) fun g=>hq g.1⟩
  ·exact .inr ⟨m,.inl h1,(if_neg hq).trans h2⟩
theorem MK.congr {get:aM -> Option V} {P Q:aM -> aM -> Prop} (h:MK get P) (e:∀ k n,P k n ↔ Q k n):MK get Q:=fun k=>by
 rcases h k with ⟨h1,h2⟩ | ⟨n,h1,h2⟩
 ·exact .inl ⟨h1,fun n hn=>h2 n ((e k n).2 hn)⟩
 ·exact .inr ⟨n,(e k n).1 h1,h2⟩
theorem Jf (h:bM E) {Z:Sg} {x:V} {es:List (V × V)} {get:aM -> Option V} (hx:entriesOf Z x = some es) (hs:SM E es get) (k:aM):lookup E Z 104 x (.str k) true = some (match get k with | some v=>.fN [v,.bool true] | none=>.fN [.str [],.bool false]):=by
 have hk:dM E 9 (.str k) = true:=by unfold dM; rw [h.cK]
 unfold Ax.lookup
 simp only [h.Ba,h.cK,hk,hx,hs.2 k,Bool.not_true,Bool.false_eq_true,if_false]
 cases get k <;> rfl
theorem Rf (h:bM E) {Z:Sg} {b:Nat} {es:List (V × V)} {get:aM -> Option V} (hb:Z[b]? = some (.map es)) (hs:SM E es get) (k n:aM):∃ es',mapUpdate E Z 104 (.mp b) (.str k) (.str n) = some (Z.set b (.map es')) /\ SM E es' fun q=>if q = k then some (.str n) else get q:=by
 obtain ⟨es',h1,h2⟩:=Ee h (v:=.str n) k rfl hs
 have hk:dM E 9 (.str k) = true:=by unfold dM; rw [h.cK]
 refine ⟨es',?_,h2⟩
 unfold Ax.mapUpdate
 simp only [h.Ba,hk,hb,h1,eR,V.aW,Bool.not_true,Bool.or_self,Bool.false_eq_true,if_false,Option.map_some]
def Mk (rs:List aF) (k n:aM):Prop:=∃ r ∈ rs,k ∈ r.outs /\ n = r.name
theorem JN {rs:List aF} {i:Nat} {r:aF} (hr:rs[i]? = some r) (k n:aM):Mk (rs.take (i + 1)) k n ↔ Mk (rs.take i) k n \/ (k ∈ r.outs /\ n = r.name):=by
 unfold Mk
 rw [take_add_one,hr]
 simp only [mem_append,Option.toList_some,mem_singleton]
 constructor
 ·rintro ⟨q,hq | rfl,h⟩
  ·exact .inl ⟨q,hq,h⟩
  ·exact .inr h
 ·rintro (⟨q,hq,h⟩ | h)
  ·exact ⟨q,.inl hq,h⟩
  ·exact ⟨r,.inr rfl,h⟩
theorem UX (h:bM E) {a:V} {rs:List aF} (ia:IS cV a rs) (hs:∀ x ∈ rs,Small x) (hl:rs.length <= 4294967296) (F:FT) (g0:F.get 0 = a) (g3:F.get 3 = .mp 0)
  (hk:∀ F' Y es get,F'.get 0 = a -> F'.get 3 = .mp 0 -> Y[0]? = some (.map es) -> SM E es get -> MK get (Mk rs) -> R E (cutAt [1,1,1] (aA Tryz.f147).code) [] ⟨74,F'⟩ Y (lT E (aA Tryz.f147).results K)) :
  R E (cutAt [1,1] (aA Tryz.f147).code) [] ⟨74,F⟩ [.map []] (lT E (aA Tryz.f147).results K):=by
 have la:=cA h ia
 rw [show cutAt [1,1] (aA Tryz.f147).code = .seq (cutAt [1,1,0] (aA Tryz.f147).code) (cutAt [1,1,1] (aA Tryz.f147).code) from rfl]
 generalize cutAt [1,1,1] (aA Tryz.f147).code = C at hk ⊢
 simp only [aA,Tryz.f147,KP,↓reduceIte,reduceLT,cutAt,g0,la]
 refine aQ (fun i F Y=>F.get 0 = a /\ F.get 3 = .mp 0 /\ F.get 17 = a /\ F.get 18 = .int .i64 (rs.length:Int) /\ F.get 19 = .int .i64 (i:Int) /\ ∃ es get,Y[0]? = some (.map es) /\ SM E es get /\ MK get (Mk (rs.take i))) rs.length ?_ ?_ rs.length 0 _ _ (by omega) (lY (by simp +decide only [GS,g0,g3,and_self]) ⟨[],fun _=>none,rfl,Ht,MK.nil.congr fun k n=>⟨fun h=>h.elim,fun ⟨r,hr,_⟩=>by cases hr⟩⟩)
 ·rintro i F Y hi ⟨g0,g3,g17,g18,g19,es,get,hb,hsm,hmk⟩ next
  obtain ⟨r,hr⟩:∃ y,rs[i]? = some y:=⟨_,List.getElem?_eq_getElem hi⟩
  obtain ⟨g,p1,p2,p3,p4,e1,i1,i2,i3,i4⟩:=eM h ia hr
  have hsr:=hs r (mem_of_getElem? hr)
  have a2:=hsr.outs
  have o1:=aI i1.bB
  have o2:=aI i2.bB
  have o3:=aI i3.bB
  have o4:=aI i4.bB
  have hlt:=dR hi
  have hadd:=bU i (by omega)
  have lo:=bK h i2
  have hb1:=aL (x:=O.cells 37 [.str r.name,p1,p2,p3,p4] true) hb
  have s1:(Y ++ [O.cells 37 [.str r.name,p1,p2,p3,p4] true])[Y.length]? = some (O.cells 37 [.str r.name,p1,p2,p3,p4] true):=aR
  rw [aG]
  simp only [KP,Ax.loadAt,Ax.storeAt,↓reduceIte,reduceEqDiff,reduceLT,reduceAdd,reduceCtorEq,h.aS,h.bE,g17,g18,g19,hlt,e1,o1,o2,o3,o4,aR,cU]
  generalize Y ++ [O.cells 37 [.str r.name,p1,p2,p3,p4] true] = τ1 at *
  generalize Y.length = y at *
  simp only [KP,↓reduceIte,reduceLT,lo]
  refine aQ (fun j F Y=>F.get 0 = a /\ F.get 3 = .mp 0 /\ F.get 17 = a /\ F.get 18 = .int .i64 (rs.length:Int) /\ F.get 19 = .int .i64 (i:Int) /\ F.get 5 = .ref y 0 /\ F.get 24 = p2 /\ F.get 25 = .int .i64 (r.outs.length:Int) /\ F.get 26 = .int .i64 (j:Int) /\ Y[y]? = some (O.cells 37 [.str r.name,p1,p2,p3,p4] true) /\ ∃ es get,Y[0]? = some (.map es) /\ SM E es get /\ MK get fun k n=>Mk (rs.take i) k n \/ (k ∈ r.outs.take j /\ n = r.name)) r.outs.length ?_ ?_ r.outs.length 0 _ _ (by omega) (Ap (by simp +decide only [GS,g0,g3,g17,g18,g19,and_self]) ⟨s1,es,get,hb1,hsm,hmk.congr fun k n=>by simp⟩)
  ·rintro j F Y hj ⟨g0,g3,g17,g18,g19,g5,g24,g25,g26,s1,es,get,hb,hsm,hmk⟩ next2
   obtain ⟨s,hsj⟩:∃ y,r.outs[j]? = some y:=⟨_,List.getElem?_eq_getElem hj⟩
   obtain ⟨g',e2⟩:=fJ h i2 hsj
   have hlt2:=dR hj
   have hadd2:=bU j (by omega)
   obtain ⟨es',hu,hsm'⟩:=Rf h hb hsm s r.name
   have hy0:0 ≠ y:=oS hb s1 (by intro e; cases e)
   rw [aG]
   simp only [KP,Ax.loadAt,↓reduceIte,reduceEqDiff,reduceLT,reduceCtorEq,h.cK,h.bE,g3,g5,g24,g25,g26,hlt2,e2,s1,hu,hadd2]
   refine next2 _ _ (Ap (by simp +decide only [GS,g0,g3,g17,g18,g19,g5,g24,g25,and_self]) ⟨by rw [getElem?_set_ne hy0]; exact s1,es',_,by rw [getElem?_set_self (List.getElem?_eq_some_iff.1 hb).1],hsm',(hmk.put s r.name).congr fun k n=>?_⟩)
   rw [dQ hsj]
   constructor
   ·rintro ((h1 | h1) | h1)
    ·exact .inl h1
    ·exact .inr ⟨.inl h1.1,h1.2⟩
    ·exact .inr ⟨.inr h1.1,h1.2⟩
   ·rintro (h1 | ⟨h1 | h1,h2⟩)
    ·exact .inl (.inl h1)
    ·exact .inl (.inr ⟨h1,h2⟩)
    ·exact .inr ⟨h1,h2⟩
  ·rintro F Y ⟨g0,g3,g17,g18,g19,g5,g24,g25,g26,s1,es,get,hb,hsm,hmk⟩
   rw [take_of_length_le (Nat.le_refl _)] at hmk
   have hlt2:=dS (Nat.lt_irrefl r.outs.length)
   rw [aG]
   simp only [KP,↓reduceIte,reduceEqDiff,reduceLT,g19,g25,g26,hlt2,hadd]
   exact next _ _ (lY (by simp +decide only [GS,g0,g3,g17,g18,and_self]) ⟨es,get,hb,hsm,hmk.congr fun k n=>(JN hr k n).symm⟩)
 ·rintro F Y ⟨g0,g3,g17,g18,g19,es,get,hb,hsm,hmk⟩
  rw [take_of_length_le (Nat.le_refl _)] at hmk
  have hlt:=dS (Nat.lt_irrefl rs.length)
  rw [aG]
  simp only [KP,↓reduceIte,reduceLT,g18,g19,hlt]
  exact hk _ _ es get (by simp +decide only [GS,g0]) (by simp +decide only [GS,g3]) hb hsm hmk
end
end
section
section
variable {E:Env} {Z:Sg} {K:V -> Sg -> Prop}
theorem OL.keep {Z Y:Sg} {v:V} {l:List aM} (h:OL Z v l) (k:∀ (c:Nat) (o:O),aT v = some c -> Z[c]? = some o -> Y[c]? = some o):OL Y v l:=by
 rcases h with h | ⟨b,cs,ex,rfl,hb,ht⟩
 ·exact .inl h
 ·exact .inr ⟨b,cs,ex,rfl,k b _ rfl hb,ht⟩
theorem OL.ok {Z:Sg} {v:V} {l:List aM} (h:OL Z v l):eR v = true:=by
 rcases h with ⟨rfl,-⟩ | ⟨b,cs,ex,rfl,-⟩ <;> rfl
def Q5 (v:V) (l:List aM):Prop:=(v = .aC /\ l = []) \/ ∃ full,v = .bQ false (l.map fun s=>[V.str s]) full
theorem nU:∀ l:List aM,Ax.rows 1 l.length (l.map V.str) = l.map fun s=>[V.str s]
 | []=>rfl
 | s :: l=>by
  rw [length_cons,map_cons,Ax.rows,map_cons]
  exact congrArg _ (nU l)
theorem OL.snap (h:bM E) {Z:Sg} {v:V} {l:List aM} {m:Nat} (ho:OL Z v l):∃ v',bN Z E.ty false (m + 2) v = some v' /\ Q5 v' l:=by
 rcases ho with ⟨rfl,rfl⟩ | ⟨b,cs,ex,rfl,hb,ht⟩
 ·exact ⟨.aC,rfl,.inl ⟨rfl,rfl⟩⟩
 ·have hle:l.length <= cs.length:=by
   have:=congrArg List.length ht
   rw [length_take,length_map] at this
   omega
  have ht1:cs.take (l.length * 1) = l.map V.str:=by rw [Nat.mul_one]; exact ht
  obtain ⟨full,e⟩:=Fm (g:=false) (n:=l.length) (m:=m) hb h.cK (show l.length * 1 <= _ by omega) (fun c hcm=>by
   rw [show cs.take (l.length * 1) = l.map V.str from ht1] at hcm
   obtain ⟨s,-,rfl⟩:=mem_map.1 hcm
   exact ⟨rfl,rfl⟩)
  refine ⟨_,e,.inr ⟨full,?_⟩⟩
  show V.bQ false (Ax.rows 1 l.length (cs.take (l.length * 1))) full = _
  rw [ht1,nU]
theorem Q5.tag {v:V} {l:List aM} (h:Q5 v l):cH false v = true:=by
 rcases h with ⟨rfl,-⟩ | ⟨full,rfl⟩ <;> rfl
def vW (Y:Sg) (N:aF -> aM -> Prop) (es:List (V × V)) (rs:List aF):Prop:=eN (fun e r=>e.1 = V.str r.name /\ ∃ l,OL Y e.2 l /\ l.length <= 1000000 /\ ∀ x,x ∈ l ↔ N r x) es rs
def xZ (N:aF -> aM -> Prop) (es:List (V × V)) (rs:List aF):Prop:=eN (fun e r=>e.1 = V.str r.name /\ ∃ l,Q5 e.2 l /\ l.length <= 1000000 /\ ∀ x,x ∈ l ↔ N r x) es rs
theorem vW.keep {Z Y:Sg} {N:aF -> aM -> Prop} {mA:Nat} {em:List (V × V)} {es:List (V × V)} {rs:List aF} (h:vW Z N es rs) (hm:Z[mA]? = some (.map em)) (k:∀ (c:Nat) (o:O),Z[c]? = some o -> c ≠ mA -> Y[c]? = some o):vW Y N es rs:=by
 refine eN.imp h fun e r ⟨h1,l,h2,h3⟩=>⟨h1,l,h2.keep fun c o hc ho=>k c o ho ?_,h3⟩
 rintro rfl
 rcases h2 with ⟨e0,-⟩ | ⟨b,cs,ex,e0,hb,-⟩
 ·rw [e0] at hc; cases hc
 ·rw [e0] at hc
  cases hc
  rw [hm] at hb
  cases hb
theorem BG (h:bM E) {k:aM} {v:V}:∀ {es:List (V × V)},(∀ e ∈ es,∃ q,e.1 = V.str q /\ q ≠ k) -> jI (eX E 9) (.str k) v es = some (es ++ [(.str k,v)])
 | [],_=>rfl
 | (k0,v0) :: es,hs=>by
  obtain ⟨q,e1,hq⟩:=hs _ (mem_cons_self ..)
  dsimp only at e1
  subst e1
  rw [jI,bV h,gB (Ne.symm hq)]
  simp only [BG h fun e he=>hs e (mem_cons_of_mem _ he)]
  rfl
theorem Is (h:bM E) {Y:Sg} {b:Nat} {N:aF -> aM -> Prop} {es:List (V × V)} {rs:List aF} {r:aF} {v:V} {l:List aM} (hb:Y[b]? = some (.map es)) (ha:vW Y N es rs) (hn:∀ q ∈ rs,q.name ≠ r.name) (hv:OL Y v l) (hl:l.length <= 1000000) (hm:∀ x,x ∈ l ↔ N r x) :
  mapUpdate E Y 96 (.mp b) (.str r.name) v = some (Y.set b (.map (es ++ [(.str r.name,v)]))) /\ vW (Y.set b (.map (es ++ [(.str r.name,v)]))) N (es ++ [(.str r.name,v)]) (rs ++ [r]):=by
 have hk:dM E 9 (.str r.name) = true:=by unfold dM; rw [h.cK]
 have hp:=BG (v:=v) (k:=r.name) h (es:=es) fun e he=>by
  obtain ⟨q,hq,h1,-⟩:=eN.mem ha he
  exact ⟨q.name,h1,hn q hq⟩
 have hkeep:∀ (c:Nat) (o:O),Y[c]? = some o -> c ≠ b -> (Y.set b (.map (es ++ [(.str r.name,v)])))[c]? = some o:=fun c o hc hcb=>by
  rw [getElem?_set_ne (Ne.symm hcb)]; exact hc
 refine ⟨?_,?_⟩
 ·unfold Ax.mapUpdate
  simp only [h.Tp,hk,hb,hp,hv.ok,Bool.not_true,Bool.or_self,Bool.false_eq_true,if_false,Option.map_some]
 ·refine eN.append (ha.keep hb hkeep) (.cons ⟨rfl,l,hv.keep fun c o hc ho=>hkeep c o ho ?_,hl,hm⟩ .nil)
  rintro rfl
  rcases hv with ⟨e0,-⟩ | ⟨b',cs,ex,e0,hb',-⟩
  ·rw [e0] at hc; cases hc
  ·rw [e0] at hc
   cases hc
   rw [hb] at hb'
   cases hb'
theorem Fj (h:bM E) {Y:Sg} {b:Nat} {N:aF -> aM -> Prop} {es:List (V × V)} {rs:List aF} (hb:Y[b]? = some (.map es)) (ha:vW Y N es rs):∃ es',cT Y E.ty false (.mp b) = some (.imp false es') /\ xZ N es' rs:=by
 have key:∀ {es:List (V × V)} {rs:List aF},vW Y N es rs -> ∃ es',aX (fun (e:V × V)=>if e.1.cells.all Ax.plainCell then (match e.2 with
   | .agg cs=>match aX (fun v=>match bN Y E.ty false 11 v with
     | some v=>if cH false v then some v else Ax.no "snap: borrowed"
     | none=>none) cs with
    | some cs=>some (e.1,V.agg cs)
    | none=>none
   | v=>match (match bN Y E.ty false 11 v with
     | some v=>if cH false v then some v else Ax.no "snap: borrowed"
     | none=>none) with
    | some v=>some (e.1,v)
    | none=>none) else none) es = some es' /\ xZ N es' rs:=by
  intro es rs ha
  induction ha with
  | nil=>exact ⟨[],rfl,.nil⟩
  | @cons e r es rs h1 _ ih=>
   obtain ⟨es',e1,a1⟩:=ih
   obtain ⟨a,v⟩:=e
   obtain ⟨h2,l,h3,h4,h5⟩:=h1
   dsimp only at h2 h3
   subst h2
   obtain ⟨v',e2,sv⟩:=h3.snap (m:=9) h
   refine ⟨(.str r.name,v') :: es',?_,.cons ⟨rfl,l,sv,h4,h5⟩ a1⟩
   rw [aX]
   have hpc:(V.str r.name).cells.all Ax.plainCell = true:=rfl
   have ht:=sv.tag
   rcases h3 with ⟨rfl,-⟩ | ⟨b',cs,ex,rfl,-⟩
   ·simp only [hpc,if_true,e2,ht,e1]
   ·simp only [hpc,if_true,e2,ht,e1]
 obtain ⟨es',e1,a1⟩:=key ha
 refine ⟨es',?_,a1⟩
 have e:bN Y E.ty false 12 (.mp b) = some (.imp false es'):=by
  rw [bN]
  simp only [hb]
  exact congrArg (fun o=>match o with
   | some l=>some (V.imp false l)
   | none=>none) e1
 show aZ.one Y E.ty false (.mp b) = _
 unfold aZ.one
 rw [show c_ = 12 from rfl,e]
 rfl
end
end
section
section
variable {E:Env} {Z:Sg} {K:V -> Sg -> Prop}
theorem RY (h:bM E) {τ0 Y:Sg} {w p1 p2 p3 p4:V} {l:List aM} {r:aF} {y mA:Nat} {es:List (V × V)} {N:aF -> aM -> Prop} {rs:List aF} (ow:bH aJ 9 Y w l) (hl:l.length <= 1000000) (kp:Kp τ0 Y) (fr:∀ b,aT w = some b -> τ0.length <= b) (hy:τ0[y]? = some (O.cells 37 [.str r.name,p1,p2,p3,p4] true)) (hA:τ0[mA]? = some (.map es)) (ha:vW τ0 N es rs) (hn:∀ q ∈ rs,q.name ≠ r.name) (hm:∀ x,x ∈ l ↔ N r x)
  (F:FT) (g8:F.get 8 = .mp mA) (g10:F.get 10 = .ref y 0) (g11:F.get 11 = w) {st:List kY} {Q:Ax.X -> Fr -> Sg -> Prop}
  (hk:∀ F' τ' es',(∀ k,k ∈ [0,3,8,37,38,39] -> F'.get k = F.get k) -> τ'[mA]? = some (.map es') -> vW τ' N es' (rs ++ [r]) -> (∀ (c:Nat) (o:O),τ0[c]? = some o -> c ≠ mA -> τ'[c]? = some o) -> M E st .normal ⟨74,F'⟩ τ' Q):R E (.region 24 (opsOf (cutAt [1,1,1,1,0,1,2,2,1,1,0,2,1,1,1,1] (aA Tryz.f147).code)) true) st ⟨74,F⟩ Y Q:=by
 obtain ⟨n,v,τ1,hcall,⟨l',ol,hle,hmem⟩,hbk,sp,hlen⟩:=DP h ow hl
 have kp1:Kp τ0 τ1:=fun c o hc=>sp c o (kp c o hc) fun e=>absurd (List.getElem?_eq_some_iff.1 hc).1 (by have:=fr c e; omega)
 have hy0:=kp _ _ hy
 have hy1:=kp1 _ _ hy
 have hA1:=kp1 _ _ hA
 obtain ⟨hu,ha2⟩:=Is h hA1 (ha.keep hA fun c o hc _=>kp1 c o hc) hn ol (by omega) (fun x=>(hmem x).trans (hm x))
 have vs:=vZ 11 r.name
 have key:∃ F',cC E (ev E n) (opsOf (cutAt [1,1,1,1,0,1,2,2,1,1,0,2,1,1,1,1] (aA Tryz.f147).code)) ⟨74,F⟩ Y = some (⟨74,F'⟩,τ1.set mA (.map (es ++ [(.str r.name,v)]))) /\ (∀ k,k ∈ [0,3,8,37,38,39] -> F'.get k = F.get k):=by
  unfold cC
  rw [h.Oe,h.OQ]
  simp only [aA,Tryz.f147,KP,Ax.loadAt,↓reduceIte,reduceEqDiff,reduceLT,reduceAdd,reduceCtorEq,h.cK,h.bE,opsOf,cutAt,gW,bJ,bW,kC,Ax.comp,Ax.last,g_,Ax.again,aO,g8,g10,g11,hy0,hy1,hcall,hu,vs]
  refine ⟨_,rfl,fun k hk=>?_⟩
  simp only [mem_cons,List.not_mem_nil,or_false] at hk
  rcases hk with rfl | rfl | rfl | rfl | rfl | rfl <;> simp +decide only [GS]
 obtain ⟨F',hD,h1⟩:=key
 refine Eq.mpr (iI hD) (hk F' _ _ h1 (by rw [getElem?_set_self (List.getElem?_eq_some_iff.1 hA1).1]) ha2 fun c o hc hcm=>?_)
 rw [getElem?_set_ne (Ne.symm hcm)]
 exact kp1 c o hc
end
end
section
section
variable {E:Env} {Z:Sg} {K:V -> Sg -> Prop}
def Nx (rs:List aF) (r:aF) (x:aM):Prop:=x ∈ r.after \/ ∃ f ∈ r.ins,Mk rs f x
structure CC (rs:List aF):Prop where
 names:∀ r ∈ rs,r.name.length <= 40
 N9:∀ r ∈ rs,∀ s ∈ r.after,s.length <= 40
 nodup:∀ (i j:Nat) (p q:aF),rs[i]? = some p -> rs[j]? = some q -> p.name = q.name -> i = j
 iU:∀ f n m,Mk rs f n -> Mk rs f m -> n = m
theorem Mk.short {rs:List aF} (h:CC rs) {f n:aM} (hm:Mk rs f n):n.length <= 40:=by
 obtain ⟨r,hr,-,rfl⟩:=hm
 exact h.names r hr
theorem UW (h:bM E) {a:V} {rs:List aF} (ia:IS cV a rs) (hs:∀ x ∈ rs,Small x) (hsh:CC rs) (hl:rs.length <= 1000) {Y:Sg} {es0:List (V × V)} {get:aM -> Option V} (h0:Y[0]? = some (.map es0)) (hsm:SM E es0 get) (hmk:MK get (Mk rs)) (F:FT) (g0:F.get 0 = a) (g3:F.get 3 = .mp 0) :
  R E (cutAt [1,1,1] (aA Tryz.f147).code) [] ⟨74,F⟩ Y (lT E (aA Tryz.f147).results (fun v σ1=>match cT σ1 E.ty false v with
   | some v=>∃ es,v = .imp false es /\ xZ (Nx rs) es rs
   | none=>False)):=by
 have la:=cA h ia
 have rest:=fun {τ0 Y w p1 p2 p3 p4 l r y mA es rs'} ow hl' kp fr hy hA ha hn hm F g8 g10 g11 st Q hk=>RY (τ0:=τ0) (Y:=Y) (w:=w) (p1:=p1) (p2:=p2) (p3:=p3) (p4:=p4) (l:=l) (r:=r) (y:=y) (mA:=mA) (es:=es) (N:=Nx rs) (rs:=rs') h ow hl' kp fr hy hA ha hn hm F g8 g10 g11 (st:=st) (Q:=Q) hk
 simp only [aA,Tryz.f147,KP,↓reduceIte,reduceLT,reduceCtorEq,cutAt,g0,la]
 have hA0:(Y ++ [O.map []])[Y.length]? = some (.map []):=aR
 have h00:=aL (x:=O.map []) h0
 have hmA:Y.length ≠ 0:=by have:=(List.getElem?_eq_some_iff.1 h0).1; omega
 generalize Y ++ [O.map []] = τ1 at *
 generalize Y.length = mA at *
 refine aQ (fun i F Y=>F.get 0 = a /\ F.get 3 = .mp 0 /\ F.get 8 = .mp mA /\ F.get 37 = a /\ F.get 38 = .int .i64 (rs.length:Int) /\ F.get 39 = .int .i64 (i:Int) /\ Y[0]? = some (.map es0) /\ ∃ es,Y[mA]? = some (.map es) /\ vW Y (Nx rs) es (rs.take i)) rs.length ?_ ?_ rs.length 0 _ _ (by omega) (Cr (by simp +decide only [GS,g0,g3,and_self]) ⟨h00,[],hA0,.nil⟩)
 ·rintro i F Y hi ⟨g0,g3,g8,g37,g38,g39,h0,es,hA,ha⟩ next
  obtain ⟨r,hr⟩:∃ y,rs[i]? = some y:=⟨_,List.getElem?_eq_getElem hi⟩
  have hrm:=mem_of_getElem? hr
  obtain ⟨g,p1,p2,p3,p4,e1,i1,i2,i3,i4⟩:=eM h ia hr
  have hsr:=hs r hrm
  have a1:=hsr.ins
  have a3:=hsr.after
  have o1:=aI i1.bB
  have o2:=aI i2.bB
  have o3:=aI i3.bB
  have o4:=aI i4.bB
  have hlt:=dR hi
  have hadd:=bU i (by omega)
  have li:=bK h i1
  have hnn:∀ q ∈ rs.take i,q.name ≠ r.name:=fun q hq e=>by
   obtain ⟨j,hj⟩:=mem_iff_getElem?.1 hq
   have hji:j < i:=by have:=(List.getElem?_eq_some_iff.1 hj).1; rw [length_take] at this; omega
   rw [List.getElem?_take_of_lt hji] at hj
   have:=hsh.nodup j i q r hj hr e
   omega
  have hb1:=aL (x:=O.cells 37 [.str r.name,p1,p2,p3,p4] true) h0
  have hA1:=aL (x:=O.cells 37 [.str r.name,p1,p2,p3,p4] true) hA
  have ha1:vW (Y ++ [O.cells 37 [.str r.name,p1,p2,p3,p4] true]) (Nx rs) es (rs.take i):=ha.keep hA fun c o hc _=>aL hc
  have s1:(Y ++ [O.cells 37 [.str r.name,p1,p2,p3,p4] true])[Y.length]? = some (O.cells 37 [.str r.name,p1,p2,p3,p4] true):=aR
  rw [aG]
  simp only [KP,Ax.loadAt,Ax.storeAt,↓reduceIte,reduceEqDiff,reduceLT,reduceAdd,reduceCtorEq,h.aS,h.bE,g37,g38,g39,hlt,e1,o1,o2,o3,o4,aR,cU]
  generalize Y ++ [O.cells 37 [.str r.name,p1,p2,p3,p4] true] = τ1 at *
  generalize Y.length = y at *
  refine aU (pA h i3 (by omega)) ?_
  rintro w0 τ2 ⟨ow0,kp0,fr0⟩
  have s2:=kp0 _ _ s1
  simp only [KP,Ax.loadAt,↓reduceIte,reduceEqDiff,reduceLT,reduceCtorEq,h.aS,h.bE,s2,li]
  refine aQ (fun j F Y=>F.get 0 = a /\ F.get 3 = .mp 0 /\ F.get 8 = .mp mA /\ F.get 37 = a /\ F.get 38 = .int .i64 (rs.length:Int) /\ F.get 39 = .int .i64 (i:Int) /\ F.get 10 = .ref y 0 /\ F.get 47 = p1 /\ F.get 48 = .int .i64 (r.ins.length:Int) /\ F.get 49 = .int .i64 (j:Int) /\ Kp τ1 Y /\ ∃ w cur,F.get 11 = w /\ bH aJ 9 Y w cur /\ (∀ b,aT w = some b -> τ1.length <= b) /\ cur.length <= r.after.length + j /\ (∀ x ∈ cur,x.length <= 40) /\ ∀ x,x ∈ cur ↔ x ∈ r.after \/ ∃ f ∈ r.ins.take j,Mk rs f x) r.ins.length ?_ ?_ r.ins.length 0 _ _ (by omega) (zH (by simp +decide only [GS,g0,g3,g8,g37,g38,g39,and_self]) ⟨kp0,w0,r.after,(by simp +decide only [GS]),ow0,fr0,Nat.le_refl _,hsh.N9 r hrm,fun x=>by simp⟩)
  ·rintro j F Y hj ⟨g0,g3,g8,g37,g38,g39,g10,g47,g48,g49,kp,w,cur,g11,ow,fr,hcl,hc40,hmem⟩ next2
   obtain ⟨s,hsj⟩:∃ y,r.ins[j]? = some y:=⟨_,List.getElem?_eq_getElem hj⟩
   obtain ⟨g',e2⟩:=fJ h i1 hsj
   have hlt2:=dR hj
   have hadd2:=bU j (by omega)
   have hb2:=kp _ _ hb1
   have hlk:=Jf (Z:=Y) (x:=.mp 0) h (by unfold entriesOf; simp only [hb2]) hsm s
   have hex:∀ x,(∃ f ∈ r.ins.take (j + 1),Mk rs f x) ↔ (∃ f ∈ r.ins.take j,Mk rs f x) \/ Mk rs s x:=fun x=>by
    constructor
    ·rintro ⟨f,hf,hm⟩
     rcases (dQ hsj f).1 hf with hf | rfl
     ·exact .inl ⟨f,hf,hm⟩
     ·exact .inr hm
    ·rintro (⟨f,hf,hm⟩ | hm)
     ·exact ⟨f,(dQ hsj f).2 (.inl hf),hm⟩
     ·exact ⟨s,(dQ hsj s).2 (.inr rfl),hm⟩
   rw [aG]
   rcases hmk s with ⟨hg,hno⟩ | ⟨n,hP,hg⟩
   ·rw [hg] at hlk
    simp only [KP,Ax.loadAt,↓reduceIte,reduceEqDiff,reduceLT,h.cK,g3,g47,g48,g49,hlt2,e2,hlk,hadd2]
    refine next2 _ _ (zH (by simp +decide only [GS,g0,g3,g8,g37,g38,g39,g10,g47,g48,and_self]) ⟨kp,w,cur,(by simp +decide only [GS,g11]),ow,fr,by omega,hc40,fun x=>?_⟩)
    rw [hmem,hex]
    exact ⟨fun h=>h.elim .inl fun g=>.inr (.inl g),fun h=>h.elim .inl fun g=>.inr (g.elim id fun g=>absurd g (hno x))⟩
   ·rw [hg] at hlk
    obtain ⟨w',τ',hap,ow',sp',hln',fr'⟩:=i_ (ats:=#[28,28]) (m:=[n]) (new:=[[.str n]]) h.aS rfl h.cK rfl (by decide) (gI h) rfl (ow.app [.cells 9 [.str n] true]) (jT rfl) (.one rfl) (dX (b:=1000) (by decide) (by simp only [length_cons,length_nil]; omega))
    simp only [KP,Ax.loadAt,↓reduceIte,reduceEqDiff,reduceLT,reduceLeDiff,reduceMul,h.cK,h.aS,g3,g11,g47,g48,g49,hlt2,e2,hlk,iM,hap,hadd2]
    refine next2 _ _ (zH (by simp +decide only [GS,g0,g3,g8,g37,g38,g39,g10,g47,g48,and_self]) ⟨fun c o hc=>sp' c o (aL (kp c o hc)) fun e=>absurd (List.getElem?_eq_some_iff.1 hc).1 (by have:=fr c e; omega),w',cur ++ [n],(by simp +decide only [GS]),ow',fun b hb=>?_,by rw [length_append,List.length_singleton]; omega,fun x hx=>?_,fun x=>?_⟩)
    ·rcases fr' b hb with g | g
     ·exact fr b g
     ·have h1:=(List.getElem?_eq_some_iff.1 (kp _ _ s1)).1
      have h2:τ1.length <= Y.length:=by
       refine Nat.le_of_not_lt fun hlt=>?_
       obtain ⟨o,ho⟩:∃ o,τ1[Y.length]? = some o:=⟨_,List.getElem?_eq_getElem hlt⟩
       exact absurd (List.getElem?_eq_some_iff.1 (kp _ _ ho)).1 (Nat.lt_irrefl _)
      simp only [length_append,length_cons,length_nil] at g
      omega
    ·rcases mem_append.1 hx with hx | hx
     ·exact hc40 x hx
     ·rw [mem_singleton.1 hx]; exact hP.short hsh
    ·rw [mem_append,hmem,hex,mem_singleton]
     constructor
     ·rintro ((h1 | h1) | rfl)
      ·exact .inl h1
      ·exact .inr (.inl h1)
      ·exact .inr (.inr hP)
     ·rintro (h1 | h1 | h1)
      ·exact .inl (.inl h1)
      ·exact .inl (.inr h1)
      ·exact .inr (hsh.iU s x n h1 hP)
  ·rintro F Y ⟨g0,g3,g8,g37,g38,g39,g10,g47,g48,g49,kp,w,cur,g11,ow,fr,hcl,hc40,hmem⟩
   rw [take_of_length_le (Nat.le_refl _)] at hmem
   have hlt2:=dS (Nat.lt_irrefl r.ins.length)
   obtain ⟨τ3,cur',hS,hperm,ow3,Fe,hln3⟩:=tX ow (by omega) (fun x hx=>by have:=hc40 x hx; omega)
   have ks:=dA (fun K=>show aB E 64 [w] Y K = K (.fN []) τ3 by rw [nD h.EF,hS]; rfl)
   have kp3:Kp τ1 τ3:=fun c o hc=>Fe c o (kp c o hc) fun e=>absurd (List.getElem?_eq_some_iff.1 hc).1 (by have:=fr c e; omega)
   rw [aG]
   simp only [KP,↓reduceIte,reduceEqDiff,reduceLT,g11,g48,g49,hlt2,ks]
   refine rest (rs':=rs.take i) ow3 (by rw [hperm.length_eq]; omega) kp3 fr s1 hA1 ha1 hnn (fun x=>?_) _ ?_ ?_ ?_ _ _ ?_
   ·rw [hperm.mem_iff,hmem]; exact Iff.rfl
   ·exact (by simp +decide only [GS,g8])
   ·exact (by simp +decide only [GS,g10])
   ·exact (by simp +decide only [GS,g11])
   intro F' τ' es' hF hA' ha' hk'
   have q0:F'.get 0 = a:=(hF 0 (by simp)).trans (by simp +decide only [GS,g0])
   have q3:F'.get 3 = .mp 0:=(hF 3 (by simp)).trans (by simp +decide only [GS,g3])
   have q8:F'.get 8 = .mp mA:=(hF 8 (by simp)).trans (by simp +decide only [GS,g8])
   have Ux:F'.get 37 = a:=(hF 37 (by simp)).trans (by simp +decide only [GS,g37])
   have q38:F'.get 38 = .int .i64 (rs.length:Int):=(hF 38 (by simp)).trans (by simp +decide only [GS,g38])
   have q39:F'.get 39 = .int .i64 (i:Int):=(hF 39 (by simp)).trans (by simp +decide only [GS,g39])
   simp only [KP,↓reduceIte,reduceLT,q39,hadd]
   refine next _ _ (Cr (by simp +decide only [GS,q0,q3,q8,Ux,q38,and_self]) ⟨hk' 0 _ hb1 (Ne.symm hmA),es',hA',?_⟩)
   rw [take_add_one,hr]
   exact ha'
 ·rintro F Y ⟨g0,g3,g8,g37,g38,g39,h0,es,hA,ha⟩
  rw [take_of_length_le (Nat.le_refl _)] at ha
  obtain ⟨es',e1,a1⟩:=Fj h hA ha
  have hlt:=dS (Nat.lt_irrefl rs.length)
  rw [aG]
  simp only [KP,↓reduceIte,reduceEqDiff,reduceLT,g8,g38,g39,hlt,e1]
  exact ⟨es',rfl,a1⟩
theorem Qq (h:bM E) {a:V} {rs:List aF} (ha:LS cV 37 Z a rs) (hs:∀ x ∈ rs,Small x) (hsh:CC rs) (hl:rs.length <= 1000):aB E 147 [a] Z fun v σ'=>σ' = Z /\ ∃ es,v = .imp false es /\ xZ (Nx rs) es rs:=by
 obtain ⟨a',ea,ia⟩:=dW h ha
 rw [aH h.Wb h.TT h.WW h.Vj (args':=[a']) (by simp only [aX,ea]),bD (by kernel_rfl)]
 have key:=fun Y es0 get h0 hsm hmk F g0 g3=>UW (Y:=Y) (es0:=es0) (get:=get) h ia hs hsh hl h0 hsm hmk F g0 g3
 have k2:=fun F g0 g3 hk=>UX (K:=fun v σ1=>match cT σ1 E.ty false v with
   | some v=>∃ es,v = .imp false es /\ xZ (Nx rs) es rs
   | none=>False) h ia hs (by omega) F g0 g3 hk
 rw [show (aA Tryz.f147).code = .seq (cutAt [0] (aA Tryz.f147).code) (.seq (cutAt [1,0] (aA Tryz.f147).code) (cutAt [1,1] (aA Tryz.f147).code)) from rfl]
 generalize cutAt [1,1] (aA Tryz.f147).code = C at k2 ⊢
 simp only [aA,Tryz.f147,KP,↓reduceIte,reduceLT,cutAt]
 refine k2 _ ?_ ?_ fun F' Y es get g0 g3 hb hsm hmk=>key Y es get hb hsm hmk F' g0 g3
 ·exact (by simp +decide only [GS])
 ·exact (by simp +decide only [GS])
end
end
section
section
variable {E:Env} {Z:Sg} {K:V -> Sg -> Prop}
theorem xZ.back {N:aF -> aM -> Prop}:∀ {es:List (V × V)} {rs:List aF},xZ N es rs -> lP es = true /\ es.map ks = rs.map aF.name /\ es.length = rs.length
 | _,_,.nil=>⟨rfl,rfl,rfl⟩
 | (a,v) :: es,r :: rs,.cons h t=>by
  obtain ⟨h1,l,h2,h3,-⟩:=h
  obtain ⟨i1,i2,i3⟩:=xZ.back (N:=N) t
  dsimp only at h1 h2
  subst h1
  refine ⟨?_,?_,by rw [length_cons,length_cons,i3]⟩
  ·have hr:∀ l:List aM,tP (l.map fun s=>[V.str s]) = true:=fun l=>by
    induction l with
    | nil=>rfl
    | cons s l ih=>rw [map_cons,tP]; exact ih
   rcases h2 with ⟨rfl,-⟩ | ⟨full,rfl⟩
   ·rw [lP]; exact i1
   ·rw [lP,hr,length_map,Nat.ble_eq_true_of_le h3]; exact i1
  ·rw [map_cons,map_cons,i2]; rfl
theorem z_:∀ l:List aM,mF (l.map fun s=>[V.str s]) = l
 | []=>rfl
 | s :: l=>by rw [map_cons,mF,z_ l]
theorem Q5.list {v:V} {l:List aM} (h:Q5 v l):iA v = l:=by
 rcases h with ⟨rfl,rfl⟩ | ⟨full,rfl⟩
 ·rfl
 ·exact z_ l
theorem wV:∀ {es:List (V × V)},iL es -> (es.map ks).Nodup -> fZ es = true
 | [],_,_=>rfl
 | e :: es,ha,hn=>by
  obtain ⟨k,hk⟩:=ha _ (mem_cons_self ..)
  obtain ⟨a,v⟩:=e
  dsimp only at hk
  subst hk
  rw [map_cons,nodup_cons] at hn
  have hh:∀ {l:List (V × V)},iL l -> k ∉ l.map ks -> fZ.hasKey k l = false:=by
   intro l
   induction l with
   | nil=>intro _ _; rfl
   | cons e l ih=>
    intro ha hk
    obtain ⟨q,hq⟩:=ha _ (mem_cons_self ..)
    obtain ⟨b,u⟩:=e
    dsimp only at hq
    subst hq
    rw [map_cons,mem_cons,not_or] at hk
    rw [fZ.hasKey,show Ax.seq q k = false from jO.2 (fun e=>hk.1 e.symm)]
    exact ih (fun e he=>ha e (mem_cons_of_mem _ he)) hk.2
  rw [fZ,hh (fun e he=>ha e (mem_cons_of_mem _ he)) hn.1]
  exact wV (fun e he=>ha e (mem_cons_of_mem _ he)) hn.2
structure NM (rs:List aF) (es:List (V × V)):Prop where
 ok:lP es = true
 keys:es.map ks = rs.map aF.name
 nodup:(es.map ks).Nodup
 nd:fZ es = true
 len:es.length = rs.length
 next:∀ r ∈ rs,∀ x,x ∈ bA es r.name ↔ Nx rs r x
theorem xZ.mem {N:aF -> aM -> Prop}:∀ {es:List (V × V)} {rs:List aF},xZ N es rs -> ∀ r ∈ rs,∃ v l,(V.str r.name,v) ∈ es /\ Q5 v l /\ ∀ x,x ∈ l ↔ N r x
 | _,_,.nil,r,hr=>by cases hr
 | (a,v) :: es,q :: rs,.cons h t,r,hr=>by
  rcases mem_cons.1 hr with rfl | hr
  ·obtain ⟨h1,l,h2,h3,h4⟩:=h
   dsimp only at h1
   subst h1
   exact ⟨v,l,mem_cons_self ..,h2,h4⟩
  ·obtain ⟨v',l,h1,h2,h3⟩:=xZ.mem (N:=N) t r hr
   exact ⟨v',l,mem_cons_of_mem _ h1,h2,h3⟩
theorem sU:∀ {rs:List aF},(∀ (i j:Nat) (p q:aF),rs[i]? = some p -> rs[j]? = some q -> p.name = q.name -> i = j) -> (rs.map aF.name).Nodup
 | [],_=>List.Pairwise.nil
 | r :: rs,h=>by
  rw [map_cons,nodup_cons]
  refine ⟨fun hm=>?_,sU fun i j p q hp hq e=>by
   have:=h (i + 1) (j + 1) p q hp hq e
   omega⟩
  obtain ⟨q,hq,e⟩:=mem_map.1 hm
  obtain ⟨j,hj⟩:=mem_iff_getElem?.1 hq
  have:=h 0 (j + 1) r q rfl hj e.symm
  omega
theorem QN {rs:List aF} {es:List (V × V)} (hsh:CC rs) (h:xZ (Nx rs) es rs):NM rs es:=by
 obtain ⟨h1,h2,h3⟩:=h.back
 have hn:(es.map ks).Nodup:=by rw [h2]; exact sU hsh.nodup
 have hb:=kQ h1
 refine ⟨h1,h2,hn,wV (fun e he=>(hb e he).1) hn,h3,fun r hr x=>?_⟩
 obtain ⟨v,l,hm,hv,hx⟩:=h.mem r hr
 rw [qX hb hn hm,hv.list]
 exact hx x
theorem Ar {L:List (List (List Nat))}:∀ {l:List (List Nat)},iC L l = none ↔ ∀ a ∈ l,fI a L = none
 | []=>⟨fun _ a h=>(by cases h),fun _=>rfl⟩
 | a :: l=>by
  rw [iC]
  have ih:=Ar (L:=L) (l:=l)
  cases hd:fI a L with
  | none=>
   dsimp only
   rw [ih]
   exact ⟨fun h x hx=>(mem_cons.1 hx).elim (fun e=>by rw [e]; exact hd) (h x),fun h x hx=>h x (mem_cons_of_mem _ hx)⟩
  | some d=>
   refine ⟨fun h=>?_,fun h=>?_⟩
   ·cases hb:iC L l with
    | none=>rw [hb] at h; cases h
    | some e=>
     rw [hb] at h
     dsimp only at h
     split at h <;> cases h
   ·have:=h a (mem_cons_self ..)
    rw [hd] at this; cases this
theorem Dg {es:List (V × V)} (hb:fC es) {f:List Nat}:∀ (k:Nat) (x:List Nat),AL es f k x -> (∀ j,j < k -> ¬ AL es f j x) -> ∃ ys:List (List Nat),ys.length = k /\ ys.Nodup /\ (∀ y ∈ ys,y ∈ es.map ks) /\ ∀ y ∈ ys,∃ j,1 <= j /\ j <= k /\ AL es f j y /\ ∀ i,i < j -> ¬ AL es f i y
 | 0,x,_,_=>⟨[],rfl,List.Pairwise.nil,fun _ h=>(by cases h),fun _ h=>(by cases h)⟩
 | k + 1,x,.succ (nx:=nx) hx hr,hm=>by
  have hmin:∀ j,j < k -> ¬ AL es f j nx:=fun j hj h=>hm (j + 1) (by omega) (.succ hx h)
  obtain ⟨ys,h1,h2,h3,h4⟩:=Dg hb k nx hr hmin
  refine ⟨x :: ys,by rw [length_cons,h1],nodup_cons.2 ⟨fun hxy=>?_,h2⟩,fun y hy=>?_,fun y hy=>?_⟩
  ·obtain ⟨j,j1,j2,j3,j4⟩:=h4 x hxy
   exact hm j (by omega) j3
  ·rcases mem_cons.1 hy with rfl | hy
   ·obtain ⟨v,hv,-⟩:=wY hb hx
    exact mem_map.2 ⟨_,hv,rfl⟩
   ·exact h3 y hy
  ·rcases mem_cons.1 hy with rfl | hy
   ·exact ⟨k + 1,by omega,Nat.le_refl _,.succ hx hr,hm⟩
   ·obtain ⟨j,j1,j2,j3⟩:=h4 y hy
    exact ⟨j,j1,by omega,j3⟩
theorem Mo {es:List (V × V)} (hb:fC es) (hn:(es.map ks).Nodup) {f x:List Nat} {k:Nat} (h:AL es f k x):∃ d,rY es f x = some d:=by
 have:∃ d,AL es f d x /\ ∀ j,j < d -> ¬ AL es f j x:=by
  induction k using Nat.strongRecOn with
  | _ k ih=>
   by_cases hex:∃ j,j < k /\ AL es f j x
   ·obtain ⟨j,hj,hr⟩:=hex
    exact ih j hj hr
   ·exact ⟨k,h,fun j hj hr=>hex ⟨j,hj,hr⟩⟩
 obtain ⟨d,hr,hm⟩:=this
 obtain ⟨ys,h1,h2,h3,-⟩:=Dg hb d x hr hm
 have:=kU h2 h3
 rw [h1,length_map] at this
 exact ⟨d,(kO hb hn).2 ⟨this,hr,hm⟩⟩
theorem Cw {rs:List aF} {es:List (V × V)} (h:NM rs es) (f:aM):iC (dI es es.length [f]) (bA es f) ≠ none ↔ ∃ n,AL es f (n + 1) f:=by
 have hb:=kQ h.ok
 constructor
 ·intro hne
  have hne:∃ b,iC (dI es es.length [f]) (bA es f) = some b:=by
   cases he:iC (dI es es.length [f]) (bA es f) with
   | none=>exact absurd he hne
   | some b=>exact ⟨b,rfl⟩
  obtain ⟨b,hbo⟩:=hne
  obtain ⟨a,ha,hd⟩:=xU _ _ _ hbo
  exact ⟨b,.succ ha ((kO hb h.nodup).1 hd).2.1⟩
 ·rintro ⟨n,hr⟩ hno
  cases hr with
  | succ hx hr=>
   obtain ⟨d,hd⟩:=Mo hb h.nodup hr
   have:=Ar.1 hno _ hx
   rw [show fI _ (dI es es.length [f]) = some d from hd] at this
   cases this
end
end
section
section
variable {E:Env} {Z:Sg} {K:V -> Sg -> Prop}
theorem gL {α:Type} {p:α -> Bool}:∀ {l:List α} {k:Nat},bF p l = some k -> ∃ x,l[k]? = some x /\ p x = true
 | [],_,h=>by cases h
 | x :: l,k,h=>by
  rw [bF] at h
  by_cases hx:p x = true
  ·rw [if_pos hx] at h; cases h; exact ⟨x,rfl,hx⟩
  ·rw [if_neg hx] at h
   cases hf:bF p l with
   | none=>rw [hf] at h; cases h
   | some j=>
    rw [hf] at h
    cases h
    obtain ⟨y,h1,h2⟩:=gL hf
    exact ⟨y,h1,h2⟩
structure Good (rs:List aF):Prop where
 short:CC rs
 known:∀ r ∈ rs,∀ n ∈ r.after,h_ rs n = true
 len:rs.length <= 40
 rule:∀ r ∈ rs,aY r = 0
theorem I9 {s:aM} (h:bL s = true):s.length <= 40:=by
 unfold bL at h
 simp only [Bool.and_eq_true,decide_eq_true_eq] at h
 exact h.1.2
theorem lI {rs:List aF} (h:fW rs = 0):Good rs:=by
 unfold fW at h
 cases hf:rs.find? (fun r=>decide (aY r ≠ 0)) with
 | some r=>
  rw [hf] at h
  have:=List.find?_some hf
  rw [decide_eq_true_eq] at this
  exact absurd h this
 | none=>
  rw [hf] at h
  dsimp only at h
  have hr:∀ r ∈ rs,aY r = 0:=fun r hr=>by
   have:=List.find?_eq_none.1 hf r hr
   simpa using this
  by_cases h40:40 < rs.length
  ·rw [if_pos h40] at h; cases h
  rw [if_neg h40] at h
  cases hc:rN rs with
  | true=>rw [if_pos hc] at h; cases h
  | false=>
  rw [if_neg (by rw [hc]; simp)] at h
  cases hst:f_ rs with
  | true=>rw [if_pos hst] at h; cases h
  | false=>
  have hcl:∀ i r,rs[i]? = some r -> h_ (rs.take i) r.name = false /\ r.outs.any (uM (rs.take i)) = false:=fun i r hi=>by
   have:=List.any_eq_false.1 hc i (mem_range.2 (List.getElem?_eq_some_iff.1 hi).1)
   rw [Cp hi] at this
   simpa using this
  have hform:∀ r ∈ rs,bL r.name = true /\ r.after.all bL = true:=fun r hm=>by
   have:=hr r hm
   unfold aY at this
   by_cases hfo:kA r = false
   ·rw [if_pos hfo] at this; cases this
   ·have hfo:kA r = true:=by simpa using hfo
    unfold kA at hfo
    simp only [Bool.and_eq_true] at hfo
    exact ⟨hfo.1.1.1.1.1,hfo.1.2⟩
  have before:∀ (i j:Nat) (p:aF),j < i -> rs[j]? = some p -> p ∈ rs.take i:=fun i j p hji hj=>mem_of_getElem? (by rw [List.getElem?_take_of_lt hji]; exact hj)
  refine ⟨⟨fun r hm=>I9 (hform r hm).1,fun r hm s hs=>I9 (List.all_eq_true.1 (hform r hm).2 s hs),?_,?_⟩,fun r hm n hn=>?_,by omega,hr⟩
  ·have key:∀ (i j:Nat) (p q:aF),j < i -> rs[i]? = some p -> rs[j]? = some q -> p.name ≠ q.name:=fun i j p q hji hp hq e=>by
    have:=(hcl i p hp).1
    rw [show h_ (rs.take i) p.name = true from List.any_eq_true.2 ⟨q,before i j q hji hq,decide_eq_true e.symm⟩] at this
    cases this
   intro i j p q hp hq e
   rcases Nat.lt_trichotomy i j with g | g | g
   ·exact absurd e.symm (key j i q p g hq hp)
   ·exact g
   ·exact absurd e (key i j p q g hp hq)
  ·have key:∀ (i j:Nat) (p q:aF) (f:aM),j < i -> rs[i]? = some p -> rs[j]? = some q -> f ∈ p.outs -> f ∈ q.outs -> False:=fun i j p q f hji hp hq h1 h2=>by
    have:=(hcl i p hp).2
    rw [show p.outs.any (uM (rs.take i)) = true from List.any_eq_true.2 ⟨f,h1,List.any_eq_true.2 ⟨q,before i j q hji hq,decide_eq_true h2⟩⟩] at this
    cases this
   rintro f n m ⟨p,hp,h1,rfl⟩ ⟨q,hq,h2,rfl⟩
   obtain ⟨i,hi⟩:=mem_iff_getElem?.1 hp
   obtain ⟨j,hj⟩:=mem_iff_getElem?.1 hq
   rcases Nat.lt_trichotomy i j with g | g | g
   ·exact (key j i q p f g hj hi h2 h1).elim
   ·subst g
    rw [hi] at hj
    cases hj
    rfl
   ·exact (key i j p q f g hi hj h1 h2).elim
  ·have h1:=List.any_eq_false.1 hst r hm
   have h2:(r.after.any fun n=>decide (fF rs n = none)) = false:=by simpa using h1
   have h3:=List.any_eq_false.1 h2 n hn
   rw [sL] at h3
   simpa using h3
theorem pY {rs:List aF} {es:List (V × V)} (g:Good rs) (h:NM rs es) {i:Nat} {r:aF} (hi:rs[i]? = some r) (x:aM):x ∈ bA es r.name ↔ ∃ k q,fS rs false i k = true /\ rs[k]? = some q /\ q.name = x:=by
 have hm:=mem_of_getElem? hi
 rw [h.next r hm]
 have hd:∀ k,fS rs false i k = true ↔ (∃ f ∈ r.ins,fA rs f = some k) \/ ∃ n ∈ r.after,fF rs n = some k:=fun k=>by
  unfold fS wZ
  rw [hi]
  simp only [Bool.not_false,Bool.true_and,Bool.or_eq_true,List.any_eq_true,decide_eq_true_eq]
 constructor
 ·rintro (hx | ⟨f,hf,hmk⟩)
  ·have hk:=g.known r hm x hx
   unfold h_ at hk
   rw [<- b_] at hk
   obtain ⟨k,hk⟩:=Option.isSome_iff_exists.1 hk
   obtain ⟨q,h1,h2⟩:=gL hk
   exact ⟨k,q,(hd k).2 (.inr ⟨x,hx,hk⟩),h1,of_decide_eq_true h2⟩
  ·obtain ⟨p,hp,hfp,rfl⟩:=hmk
   obtain ⟨k,hk⟩:=jK (p:=fun q:aF=>decide (f ∈ q.outs)) hp (decide_eq_true hfp)
   obtain ⟨q,h1,h2⟩:=gL hk
   exact ⟨k,q,(hd k).2 (.inl ⟨f,hf,hk⟩),h1,g.short.iU f _ _ ⟨q,mem_of_getElem? h1,of_decide_eq_true h2,rfl⟩ ⟨p,hp,hfp,rfl⟩⟩
 ·rintro ⟨k,q,hk,hq,rfl⟩
  rcases (hd k).1 hk with ⟨f,hf,h1⟩ | ⟨n,hn,h1⟩
  ·obtain ⟨q',h2,h3⟩:=gL h1
   rw [hq] at h2
   cases h2
   exact .inr ⟨f,hf,q,mem_of_getElem? hq,of_decide_eq_true h3,rfl⟩
  ·obtain ⟨q',h2,h3⟩:=gL h1
   rw [hq] at h2
   cases h2
   rw [of_decide_eq_true h3]
   exact .inl hn
theorem Og {rs:List aF} {es:List (V × V)} (g:Good rs) (h:NM rs es) {i k:Nat} (hw:AxS.Way (fS rs false) i k):∀ {p q:aF},rs[i]? = some p -> rs[k]? = some q -> ∃ n,AL es q.name (n + 1) p.name:=by
 induction hw with
 | one hm=>
  intro p q hp hq
  exact ⟨0,.succ ((pY g h hp _).2 ⟨_,q,hm,hq,rfl⟩) .zero⟩
 | @cons i j k hm _ ih=>
  intro p q hp hq
  have hj:∃ s,rs[j]? = some s:=by
   unfold fS at hm
   rw [hp] at hm
   unfold wZ at hm
   simp only [Bool.or_eq_true,Bool.and_eq_true,List.any_eq_true,decide_eq_true_eq] at hm
   rcases hm with ⟨f,-,h1⟩ | ⟨-,n,-,h1⟩
   ·obtain ⟨s,h2,-⟩:=gL h1; exact ⟨s,h2⟩
   ·obtain ⟨s,h2,-⟩:=gL h1; exact ⟨s,h2⟩
  obtain ⟨s,hs⟩:=hj
  obtain ⟨n,hr⟩:=ih hs hq
  exact ⟨n + 1,.succ ((pY g h hp _).2 ⟨j,s,hm,hs,rfl⟩) hr⟩
theorem Mn {es:List (V × V)} {f x:List Nat} (h:AL es f 0 x):x = f:=by cases h; rfl
theorem I3 {rs:List aF} {es:List (V × V)} (g:Good rs) (h:NM rs es) {k:Nat} {q:aF} (hq:rs[k]? = some q):∀ (n i:Nat) (p:aF),rs[i]? = some p -> AL es q.name (n + 1) p.name -> AxS.Way (fS rs false) i k
 | n,i,p,hp,.succ (nx:=nx) hx hr=>by
  obtain ⟨j,s,hm,hs,rfl⟩:=(pY g h hp _).1 hx
  cases n with
  | zero=>
   have e:s.name = q.name:=Mn hr
   have:=g.short.nodup j k s q hs hq e
   subst this
   exact .one hm
  | succ n=>exact .cons hm (I3 g h hq n j s hs hr)
theorem Bw {rs:List aF} {es:List (V × V)} (g:Good rs) (h:NM rs es):Ring rs ↔ ∃ r ∈ rs,iC (dI es es.length [r.name]) (bA es r.name) ≠ none:=by
 constructor
 ·rintro ⟨i,hi,hw⟩
  have hr:rs[i]? = some rs[i]:=List.getElem?_eq_getElem hi
  obtain ⟨n,hn⟩:=Og g h hw hr hr
  exact ⟨_,mem_of_getElem? hr,(Cw h _).2 ⟨n,hn⟩⟩
 ·rintro ⟨r,hr,hb⟩
  obtain ⟨i,hi⟩:=mem_iff_getElem?.1 hr
  obtain ⟨n,hn⟩:=(Cw h _).1 hb
  exact ⟨i,(List.getElem?_eq_some_iff.1 hi).1,I3 g h hi n i r hi hn⟩
end
end
section
section
variable {E:Env} {Z:Sg} {K:V -> Sg -> Prop}
theorem K7 {rs:List aF} {es:List (V × V)} (h:NM rs es) (hl:rs.length <= 1000) (g:Bool) (f:aM):nS [.imp g es,.str f] = some (mY es f):=by
 show (match lP es,fZ es,Nat.ble es.length 1000000 with
  | true,true,true=>some (mY es f)
  | _,_,_=>none) = _
 rw [h.ok,h.nd,Nat.ble_eq_true_of_le (by rw [h.len]; omega)]
theorem Cy (es:List (V × V)) (f:aM):(iC (dI es es.length [f]) (bA es f) = none /\ mY es f = .aC) \/ (iC (dI es es.length [f]) (bA es f) ≠ none /\ ∃ l full,mY es f = .bQ false ((f :: l).map fun s=>[V.str s]) full):=by
 unfold mY
 dsimp only
 cases iC (dI es es.length [f]) (bA es f) with
 | none=>exact .inl ⟨rfl,rfl⟩
 | some b=>exact .inr ⟨by simp,_,_,rfl⟩
theorem Sj (h:bM E) {rs:List aF} {es:List (V × V)} (hn:NM rs es) (hl:rs.length <= 1000) (g:Bool) (f:aM):aB E 148 [.imp g es,.str f] Z K = K (mY es f) Z:=by
 have h5:cT [] E.ty false (mY es f) = some (mY es f):=by
  rcases Cy es f with ⟨-,e⟩ | ⟨-,l,full,e⟩
  ·rw [e]; rfl
  ·rw [e]; exact C9 rfl rfl
 have hi:Ax.bB (.imp g es) = true:=rfl
 exact sE (args':=[.imp g es,.str f]) h.Wa h.TS (by simp only [aX,cL,eZ hi (dG hi)]) (K7 hn hl g f) h5
theorem XA (h:bM E) {rs:List aF} {es:List (V × V)} {g:Bool} (hg:Good rs) (hn:NM rs es) {Y:Sg} {w:V} (ow:bH aJ 9 Y w (rs.map aF.name)) (F:FT) (g5:F.get 5 = .imp g es) (g6:F.get 6 = w) :
  R E (cutAt [1,1,1,1,1] (aA Tryz.f109).code) [] ⟨48,F⟩ Y (lT E (aA Tryz.f109).results (fun v σ1=>match cT σ1 E.ty false v with
   | some v=>(v = .aC /\ ¬ Ring rs) \/ ∃ x l,jW aJ v (x :: l) /\ Ring rs
   | none=>False)):=by
 have h40:=hg.len
 have hll:(rs.map aF.name).length <= 40:=by rw [length_map]; omega
 obtain ⟨τ3,ns,hS,hperm,ow3,-,-⟩:=tX ow (by omega) (fun x hx=>by
  obtain ⟨r,hr,rfl⟩:=mem_map.1 hx
  have:=hg.short.names r hr
  omega)
 have ks:=dA (fun K=>show aB E 64 [w] Y K = K (.fN []) τ3 by rw [nD h.EF,hS]; rfl)
 have hnl:ns.length <= 40:=by rw [hperm.length_eq]; omega
 have lw:=pI h.aS rfl ow3.ls
 simp only [aA,Tryz.f109,KP,↓reduceIte,reduceEqDiff,reduceLT,cutAt,g6,ks,lw]
 refine aQ (fun i F Y=>Y = τ3 /\ F.get 5 = .imp g es /\ F.get 35 = w /\ F.get 36 = .int .i64 (ns.length:Int) /\ F.get 37 = .int .i64 (i:Int) /\ ∀ (j:Nat) (x:aM),j < i -> ns[j]? = some x -> iC (dI es es.length [x]) (bA es x) = none) ns.length ?_ ?_ ns.length 0 _ _ (by omega) ⟨rfl,(gP (by simp +decide only [GS,g5,and_self]) (fun j x hj=>by omega))⟩
 ·rintro i F Y hi ⟨rfl,g5,g35,g36,g37,hp⟩ next
  obtain ⟨x,hx⟩:∃ y,ns[i]? = some y:=⟨_,List.getElem?_eq_getElem hi⟩
  obtain ⟨p,r,e4,e5,-,e6,-⟩:=DQ (Z:=Y) h.aS rfl h.cK rfl ow3.ls hx
  have e6:=e6 rfl (by decide)
  rw [show r = [.str x] from e5] at e6
  have e6:loadAt E Y 9 p = some (.str x):=e6
  have hlt:=dR hi
  have hadd:=bU i (by omega)
  have kb:=fun (Z:Sg)=>dA (fun K=>Sj (Z:=Z) (K:=K) h hn (by omega) g x)
  have hxm:x ∈ rs.map aF.name:=hperm.mem_iff.1 (mem_of_getElem? hx)
  obtain ⟨q,hq,hqx⟩:=mem_map.1 hxm
  rw [aG]
  rcases Cy es x with ⟨hb,e⟩ | ⟨hb,l,full,e⟩
  ·simp only [KP,↓reduceIte,reduceEqDiff,reduceLT,g5,g35,g36,g37,hlt,e4,e6,kb,e,Cg h,hadd]
   refine next _ _ ⟨rfl,(gP (by simp +decide only [GS,g5,g35,g36,and_self]) (fun j y hj hy=>?_))⟩
   rcases Nat.lt_or_ge j i with gg | gg
   ·exact hp j y gg hy
   ·obtain rfl:j = i:=by omega
    rw [hx] at hy; cases hy; exact hb
  ·have hsn:∀ Z,cT Z E.ty false (.bQ false ((x :: l).map fun s=>[V.str s]) full) = some (.bQ false ((x :: l).map fun s=>[V.str s]) full):=fun Z=>C9 rfl rfl
   simp only [KP,↓reduceIte,reduceEqDiff,reduceLT,reduceCtorEq,g5,g35,g36,g37,hlt,e4,e6,kb,e,Cf h,hsn]
   exact .inr ⟨x,l,.inr ⟨_,full,rfl,yW _⟩,(Bw hg hn).2 ⟨q,hq,by rw [hqx]; exact hb⟩⟩
 ·rintro F Y ⟨rfl,g5,g35,g36,g37,hp⟩
  have hlt:=dS (Nat.lt_irrefl ns.length)
  rw [aG]
  simp only [KP,↓reduceIte,reduceLT,g36,g37,hlt]
  refine .inl ⟨rfl,fun hr=>?_⟩
  obtain ⟨r,hr,hb⟩:=(Bw hg hn).1 hr
  obtain ⟨j,hj⟩:=mem_iff_getElem?.1 (hperm.mem_iff.2 (mem_map.2 ⟨r,hr,rfl⟩))
  exact hb (hp j r.name (List.getElem?_eq_some_iff.1 hj).1 hj)
theorem NQ (h:bM E) {a:V} {rs:List aF} (ha:LS cV 37 Z a rs) (hs:∀ x ∈ rs,Small x) (hp:fW rs = 0):aB E 109 [a] Z fun v σ'=>σ' = Z /\ ((v = .aC /\ ¬ Ring rs) \/ ∃ x l,jW aJ v (x :: l) /\ Ring rs):=by
 obtain ⟨a',ea,ia⟩:=dW h ha
 have hg:=lI hp
 have h40:=hg.len
 rw [aH h.Wl h.T3 h.W_ h.Vt (args':=[a']) (by simp only [aX,ea]),bD (by kernel_rfl)]
 have la:=cA h ia
 have key:=fun es g hn Y w ow F g5 g6=>XA (E:=E) (rs:=rs) (es:=es) (g:=g) (Y:=Y) (w:=w) h hg hn ow F g5 g6
 rw [show (aA Tryz.f109).code = .seq (cutAt [0] (aA Tryz.f109).code) (.seq (cutAt [1,0] (aA Tryz.f109).code) (.seq (cutAt [1,1,0] (aA Tryz.f109).code) (.seq (cutAt [1,1,1,0] (aA Tryz.f109).code) (.seq (cutAt [1,1,1,1,0] (aA Tryz.f109).code) (cutAt [1,1,1,1,1] (aA Tryz.f109).code))))) from rfl]
 generalize cutAt [1,1,1,1,1] (aA Tryz.f109).code = C at key ⊢
 simp only [aA,Tryz.f109,KP,↓reduceIte,reduceLT,reduceCtorEq,cutAt]
 refine aU (JI h (ia.ls _ 37) hs (by omega)) ?_
 rintro v σ' ⟨rfl,nm,rfl⟩
 rw [hp]
 simp only [KP,↓reduceIte,reduceEqDiff,reduceLT,reduceCtorEq]
 refine aU (Qq h (ia.ls _ 37) hs hg.short (by omega)) ?_
 rintro v σ' ⟨rfl,es,rfl,hv⟩
 have hn:=QN hg.short hv
 simp only [KP,↓reduceIte,reduceLT,reduceCtorEq,la]
 refine aQ (fun i F Y=>F.get 5 = .imp false es /\ F.get 21 = a' /\ F.get 22 = .int .i64 (rs.length:Int) /\ F.get 23 = .int .i64 (i:Int) /\ ∃ w,F.get 6 = w /\ bH aJ 9 Y w ((rs.take i).map aF.name)) rs.length ?_ ?_ rs.length 0 _ _ (by omega) (gP (by simp +decide only [GS,and_self]) ⟨.aC,(by simp +decide only [GS]),.inl ⟨rfl,rfl⟩⟩)
 ·rintro i F Y hi ⟨g5,g21,g22,g23,w,g6,ow⟩ next
  obtain ⟨r,hr⟩:∃ y,rs[i]? = some y:=⟨_,List.getElem?_eq_getElem hi⟩
  obtain ⟨g,p1,p2,p3,p4,e1,i1,i2,i3,i4⟩:=eM h ia hr
  have o1:=aI i1.bB
  have o2:=aI i2.bB
  have o3:=aI i3.bB
  have o4:=aI i4.bB
  have hlt:=dR hi
  have hadd:=bU i (by omega)
  have s1:(Y ++ [O.cells 37 [.str r.name,p1,p2,p3,p4] true])[Y.length]? = some (O.cells 37 [.str r.name,p1,p2,p3,p4] true):=aR
  have ow1:=ow.app [O.cells 37 [.str r.name,p1,p2,p3,p4] true]
  rw [aG]
  simp only [KP,Ax.loadAt,Ax.storeAt,↓reduceIte,reduceEqDiff,reduceLT,reduceLeDiff,reduceAdd,reduceMul,reduceCtorEq,h.cK,h.aS,h.bE,g6,g21,g22,g23,hlt,e1,o1,o2,o3,o4,aR,cU]
  generalize Y ++ [O.cells 37 [.str r.name,p1,p2,p3,p4] true] = τ1 at *
  generalize Y.length = y at *
  obtain ⟨w',τ',hap,ow',-,-,-⟩:=i_ (ats:=#[28,28]) (m:=[r.name]) (new:=[[.str r.name]]) h.aS rfl h.cK rfl (by decide) (gI h) rfl (ow1.app [.cells 9 [.str r.name] true]) (jT rfl) (.one rfl) (dX (b:=1000) (by decide) (by rw [length_map,length_take]; simp only [length_cons,length_nil]; omega))
  simp only [KP,↓reduceIte,reduceEqDiff,reduceLT,g23,iM,hap,hadd]
  refine next _ _ (gP (by simp +decide only [GS,g5,g21,g22,and_self]) ⟨w',(by simp +decide only [GS]),?_⟩)
  rw [take_add_one,hr,List.map_append]
  exact ow'
 ·rintro F Y ⟨g5,g21,g22,g23,w,g6,ow⟩
  rw [take_of_length_le (Nat.le_refl _)] at ow
  have hlt:=dS (Nat.lt_irrefl rs.length)
  rw [aG]
  simp only [KP,↓reduceIte,reduceLT,g22,g23,hlt]
  exact key es false hn _ w ow _ (by simp +decide only [GS,g5]) (by simp +decide only [GS,g6])
theorem NS (h:bM E) {a:V} {rs:List aF} (ha:LS cV 37 Z a rs) (hs:∀ x ∈ rs,Small x) (hl:rs.length <= 4294967296):aB E 62 [a] Z fun v σ'=>σ' = Z /\ ∃ e nm,v = .fN [.int .i64 e,.str nm] /\ GW rs e:=by
 obtain ⟨a',ea,ia⟩:=dW h ha
 rw [aH h.hs62 h.sp62 h.fn62 h.md62 (args':=[a']) (by simp only [aX,ea]),bD (by kernel_rfl)]
 have d6:=h.Xw
 simp only [aA,Tryz.f62,cutAt,Option.getD_some] at d6
 simp only [aA,Tryz.f62,KP,↓reduceIte,reduceLT,reduceCtorEq,kP]
 refine aU (JI h (ia.ls _ 37) hs hl) ?_
 rintro v σ' ⟨rfl,nm,rfl⟩
 by_cases hp:fW rs = 0
 case neg=>
  have q:=decide_eq_false hp
  simp only [KP,↓reduceIte,reduceEqDiff,reduceLT,q]
  exact ⟨fW rs,nm,rfl,.inl ⟨hp,rfl⟩⟩
 have q:=decide_eq_true hp
 simp only [KP,↓reduceIte,reduceEqDiff,reduceLT,reduceCtorEq,q]
 refine aU (NQ h (ia.ls _ 37) hs hp) ?_
 rintro v σ' ⟨rfl,hv⟩
 rcases hv with ⟨rfl,hr⟩ | ⟨x,l,iv,hr⟩
 ·simp only [KP,↓reduceIte,reduceEqDiff,reduceLT,kP,Cg h]
  exact ⟨0,[],rfl,.inr ⟨hp,.inr ⟨hr,rfl⟩⟩⟩
 ·obtain ⟨g,e1⟩:=fJ h iv.is (i:=0) (x:=x) rfl
  have e1:indexAddr E 28 v (.int .i64 0) = some (.dB g [.str x]):=e1
  have en:sA E 28 true v .aC = some false:=by
   rcases iv with ⟨-,e⟩ | ⟨rs',full,rfl,-⟩
   ·cases e
   ·exact Cf h
  simp only [KP,Ax.loadAt,↓reduceIte,reduceEqDiff,reduceLT,h.cK,en,e1,bI d6,cB]
  exact ⟨3,x,rfl,.inr ⟨hp,.inl ⟨hr,rfl⟩⟩⟩
end
end
section
structure S6 (E:Env):Prop where
 hs14:E.hspec 14 = none
 OG:E.spec 14 = none
 fn14:E.fn 14 = some (aA Tryz.f14)
 md14:E.mode 14 = .eT
 hs66:E.hspec 66 = none
 sp66:E.spec 66 = none
 fn66:E.fn 66 = some (aA Tryz.f66)
 md66:E.mode 66 = .eT
 hs68:E.hspec 68 = none
 sp68:E.spec 68 = none
 fn68:E.fn 68 = some (aA Tryz.f68)
 md68:E.mode 68 = .eT
 hs15:E.hspec 15 = none
 L2:E.spec 15 = none
 fn15:E.fn 15 = some (aA Tryz.f15)
 md15:E.mode 15 = .eT
 hs69:E.hspec 69 = none
 sp69:E.spec 69 = none
 fn69:E.fn 69 = some (aA Tryz.f69)
 md69:E.mode 69 = .eT
 d14_15:aN E (cutAt [1,1,1,1,1,1,1,0,2,2,1,2,1,0] (aA Tryz.f14).code) = true
section
variable {E:Env} {Z:Sg} {K:V -> Sg -> Prop}
theorem Gx (h:bM E):eX E 9 = iE:=by
 funext x y
 unfold eX iE
 rw [h.cK]
 cases x <;> cases y <;> rfl
theorem HH (h:bM E) {Z:Sg} {g:Bool} {es:List (V × V)} (hb:fC es) (k:aM):lookup E Z 96 (.imp g es) (.str k) false = some (Ax.valOf es k):=by
 have hk:dM E 9 (.str k) = true:=by unfold dM; rw [h.cK]
 obtain ⟨r,h1,h2⟩:=xI (x:=k) hb
 rw [<- Gx h] at h1
 unfold Ax.lookup
 simp only [h.Tp,h.aS,hk,entriesOf,h1,Bool.not_true,Bool.false_eq_true,if_false]
 rw [<- h2]
 cases r <;> rfl
theorem Lv {es:List (V × V)} (hb:fC es) (k:aM):IS aJ (Ax.valOf es k) (bA es k):=by
 rcases sG (x:=k) hb with ⟨h1,h2⟩ | ⟨g,full,h1⟩
 ·exact .inl ⟨h1,h2⟩
 ·exact .inr ⟨g,_,full,h1,tS _⟩
theorem HD {es:List (V × V)} {ns:List aM} (hac:∀ x ∈ ns,∀ n,¬ AL es x (n + 1) x) {U:aM -> Prop} (hU:∀ x ∈ ns,U x -> ∃ y ∈ ns,U y /\ y ∈ bA es x):∀ x ∈ ns,¬ U x:=by
 intro x0 h0 u0
 have step:∀ a:{x:aM // x ∈ ns /\ U x},∃ b:{x:aM // x ∈ ns /\ U x},b.1 ∈ bA es a.1:=fun ⟨x,hx,ux⟩=>by
  obtain ⟨y,hy,uy,hn⟩:=hU x hx ux
  exact ⟨⟨y,hy,uy⟩,hn⟩
 let nx:{x:aM // x ∈ ns /\ U x} -> {x:aM // x ∈ ns /\ U x}:=fun a=>Classical.choose (step a)
 have hnx:∀ a,(nx a).1 ∈ bA es a.1:=fun a=>Classical.choose_spec (step a)
 let p:Nat -> {x:aM // x ∈ ns /\ U x}:=fun n=>Nat.rec ⟨x0,h0,u0⟩ (fun _ a=>nx a) n
 have hp:∀ n,(p (n + 1)).1 ∈ bA es (p n).1:=fun n=>hnx (p n)
 have hr:∀ d a,AL es (p (a + d)).1 d (p a).1:=fun d=>by
  induction d with
  | zero=>intro a; exact .zero
  | succ d ih=>
   intro a
   have:=ih (a + 1)
   rw [show a + 1 + d = a + (d + 1) by omega] at this
   exact .succ (hp a) this
 have hinj:∀ a b,a < b -> (p a).1 ≠ (p b).1:=fun a b hab e=>by
  have:=hr (b - a) a
  rw [show a + (b - a) = b by omega,<- e,show b - a = (b - a - 1) + 1 by omega] at this
  exact hac _ (p a).2.1 _ this
 have hnd:((List.range (ns.length + 1)).map fun j=>(p j).1).Nodup:=by
  rw [List.Nodup,List.pairwise_map]
  exact List.Pairwise.imp (fun h=>hinj _ _ h) List.pairwise_lt_range
 have:=kU hnd fun x hx=>by
  obtain ⟨j,-,rfl⟩:=mem_map.1 hx
  exact (p j).2.1
 rw [length_map,List.length_range] at this
 omega
end
end
section
section
variable {E:Env} {Z:Sg} {K:V -> Sg -> Prop}
theorem Em {Y:Sg} {w:V} {l:List aM} {k:Nat} {es:List (V × V)} (hb:Y[k]? = some (.map es)) (ow:bH aJ 9 Y w l):aT w ≠ some k:=by
 rcases ow with ⟨rfl,-⟩ | ⟨b,rs,ex,rfl,hc,-⟩
 ·intro e; cases e
 ·intro e
  cases e
  rw [hb] at hc
  cases hc
def zR (E:Env):Prop:=∀ {Z:Sg} {a:V} {rs:List aF},LS cV 37 Z a rs -> (∀ x ∈ rs,Small x) -> eU rs -> aB E 63 [a] Z fun v σ'=>σ' = Z /\ ∃ es,v = .imp false es /\ xZ (Nx rs) es rs
structure uD (rs:List aF) (o:List aM):Prop where
 len:o.length = rs.length
 nodup:o.Nodup
 mem:∀ x ∈ o,x ∈ rs.map aF.name
 behind:∀ (i k:Nat) (p q:aF),rs[i]? = some p -> rs[k]? = some q -> fS rs false i k = true -> ∀ (j:Nat),o[j]? = some p.name -> q.name ∈ o.take j
structure xX (E:Env) (Y:Sg) (es:List (V × V)) (p:aM -> Bool):Prop where
 b0:Y[0]? = some (.cells 96 [.imp false es] true)
 b2:Y[2]? = some (.cells 98 [.mp 1] true)
 b1:∃ e1,Y[1]? = some (.map e1) /\ SB E e1 p
theorem xX.app {Y:Sg} {es:List (V × V)} {p:aM -> Bool} (h:xX E Y es p) (y:O):xX E (Y ++ [y]) es p:=by
 obtain ⟨e1,h1,h2⟩:=h.b1
 exact ⟨aL h.b0,aL h.b2,e1,aL h1,h2⟩
theorem xX.sp {Y τ':Sg} {es:List (V × V)} {p:aM -> Bool} {w:V} {l:List aM} (h:xX E Y es p) (ow:bH aJ 9 Y w l) (sp:Sp Y τ' w):xX E τ' es p:=by
 obtain ⟨e1,h1,h2⟩:=h.b1
 exact ⟨sp _ _ h.b0 (j_ h.b0 (by decide) ow),sp _ _ h.b2 (j_ h.b2 (by decide) ow),e1,sp _ _ h1 (Em h1 ow),h2⟩
theorem xX.put {Y:Sg} {es e1:List (V × V)} {p q:aM -> Bool} (h:xX E Y es p) (hs:SB E e1 q):xX E (Y.set 1 (.map e1)) es q:=by
 obtain ⟨e0,h1,-⟩:=h.b1
 exact ⟨by rw [getElem?_set_ne (by decide)]; exact h.b0,by rw [getElem?_set_ne (by decide)]; exact h.b2,e1,by rw [getElem?_set_self (List.getElem?_eq_some_iff.1 h1).1],hs⟩
theorem acyc {rs:List aF} {es:List (V × V)} (hr:eU rs) (hn:NM rs es):∀ x ∈ rs.map aF.name,∀ n,¬ AL es x (n + 1) x:=fun x hx n h=>by
 obtain ⟨r,hm,rfl⟩:=mem_map.1 hx
 exact hr.2 ((Bw (lI hr.1) hn).2 ⟨r,hm,(Cw hn _).2 ⟨n,h⟩⟩)
theorem Km {rs:List aF} {es:List (V × V)} (hr:eU rs) (hn:NM rs es) {x y:aM} (hx:x ∈ rs.map aF.name) (hy:y ∈ bA es x):y ∈ rs.map aF.name:=by
 obtain ⟨r,hm,rfl⟩:=mem_map.1 hx
 obtain ⟨i,hi⟩:=mem_iff_getElem?.1 hm
 obtain ⟨k,q,-,hq,rfl⟩:=(pY (lI hr.1) hn hi y).1 hy
 exact mem_map.2 ⟨q,mem_of_getElem? hq,rfl⟩
theorem My {rs:List aF} {es:List (V × V)} (hr:eU rs) (hn:NM rs es) {ns o:List aM} (hp:ns.Perm (rs.map aF.name)) (hlt:o.length < rs.length):∃ j,bF (fun x=>!decide (x ∈ o) && (bA es x).all fun y=>decide (y ∈ o)) ns = some j:=by
 have hac:∀ x ∈ ns,∀ n,¬ AL es x (n + 1) x:=fun x hx=>acyc hr hn x (hp.mem_iff.1 hx)
 have hex:∃ x ∈ ns,x ∉ o:=by
  refine Classical.byContradiction fun hno=>?_
  have hnd:ns.Nodup:=hp.nodup_iff.2 (by rw [<- hn.keys]; exact hn.nodup)
  have:=kU hnd (b:=o) fun x hx=>Classical.byContradiction fun hxo=>hno ⟨x,hx,hxo⟩
  rw [hp.length_eq,length_map] at this
  omega
 refine Classical.byContradiction fun hno=>?_
 obtain ⟨x,hx,hxo⟩:=hex
 refine HD hac (U:=fun x=>x ∉ o) (fun z hz hzo=>?_) x hx hxo
 refine Classical.byContradiction fun hall=>hno ?_
 refine jK hz ?_
 rw [decide_eq_false hzo,Bool.not_false,Bool.true_and,List.all_eq_true]
 intro y hy
 refine decide_eq_true (Classical.byContradiction fun hyo=>hall ⟨y,?_,hyo,hy⟩)
 exact hp.mem_iff.2 (Km hr hn (hp.mem_iff.1 hz) hy)
end
end
section
section
variable {E:Env} {Z:Sg} {K:V -> Sg -> Prop}
theorem OW {Z:Sg} {k t:Nat} {cs cs':List V} {ex:Bool} (hb:Z[k]? = some (.cells t cs ex)) (hm:aX (fun v=>match bN Z E.ty true 11 v with
   | some v=>if cH true v then some v else Ax.no "snap: borrowed"
   | none=>none) cs = some cs'):aZ.one Z E.ty true (.ref k 0) = some (.dB true cs'):=by
 have e:bN Z E.ty true 12 (.ref k 0) = some (.dB true cs'):=by
  rw [bN]
  simp only [hb,drop_zero]
  exact congrArg (fun o=>match o with
   | some l=>some (V.dB true l)
   | none=>none) hm
 unfold aZ.one
 rw [show c_ = 12 from rfl,e]
 rfl
theorem MD {es:List (V × V)} (hb:lP es = true) (hn:(es.map ks).Nodup) (k:aM):(bA es k).length <= 4294967296:=by
 by_cases he:bA es k = []
 ·rw [he]; simp
 ·obtain ⟨x,r,hx⟩:=List.exists_cons_of_ne_nil he
  obtain ⟨v,hv,-⟩:=wY (kQ hb) (x:=k) (nx:=x) (by rw [hx]; exact mem_cons_self ..)
  rw [qX (kQ hb) hn hv]
  have:=Cz hb _ hv
  dsimp only at this
  omega
end
end
section
structure x_ (E:Env):Prop where
 uK:E.ty 105 = some { kd:=.map 46 77,size:=1,bytes:=8,zero:=.bS }
 zT:E.ty 107 = some { kd:=.jC [(0,103),(1,104),(2,77),(3,105),(4,105)],size:=5,bytes:=40,zero:=.agg [.bS,.bS,.gZ,.bS,.bS] }
 Tq:E.ty 41 = some { kd:=.ptr 107,size:=1,bytes:=8,zero:=.gZ }
 LC:E.ty 103 = some { kd:=.map 9 37,size:=1,bytes:=8,zero:=.bS }
 v_:E.ty 144 = some { kd:=.jC [(0,105),(1,46),(3,46)],size:=5,bytes:=56,zero:=.agg [.bS,.bool false,.str [],.bool false,.str []] }
 Iu:E.ty 145 = some { kd:=.sl 144,size:=1,bytes:=24,zero:=.aC }
 hs70:E.hspec 70 = none
 sp70:E.spec 70 = none
 fn70:E.fn 70 = some (aA Tryz.f70)
 md70:E.mode 70 = .eT
 Wj:E.hspec 113 = none
 T1:E.spec 113 = none
 W8:E.fn 113 = some (aA Tryz.f113)
 Vr:E.mode 113 = .shared
 hs19:E.hspec 19 = none
 LY:E.spec 19 = none
 fn19:E.fn 19 = some (aA Tryz.f19)
 md19:E.mode 19 = .eT
 hs73:E.hspec 73 = none
 sp73:E.spec 73 = none
 fn73:E.fn 73 = some (aA Tryz.f73)
 md73:E.mode 73 = .shared
 hs72:E.hspec 72 = none
 sp72:E.spec 72 = none
 fn72:E.fn 72 = some (aA Tryz.f72)
 md72:E.mode 72 = .eT
 hs74:E.hspec 74 = none
 sp74:E.spec 74 = none
 fn74:E.fn 74 = some (aA Tryz.f74)
 md74:E.mode 74 = .eT
 hs37:E.hspec 37 = none
 sp37:E.spec 37 = none
 fn37:E.fn 37 = some (aA Tryz.f37)
 md37:E.mode 37 = .eT
 hs63:E.hspec 63 = none
 sp63:E.spec 63 = none
 fn63:E.fn 63 = some (aA Tryz.f63)
 md63:E.mode 63 = .eT
 Tk:gE E (opsOf (cutAt [1,0] (aA Tryz.f70).code)) = .no
 UO:cM E .no (opsOf (cutAt [1,0] (aA Tryz.f70).code)) = some [⟨2,4,true,false⟩,  ⟨2,7,true,false⟩,  ⟨2,10,true,false⟩,  ⟨5,7,true,false⟩,  ⟨5,10,true,false⟩,  ⟨8,10,true,false⟩]
 Tj:gE E (opsOf (cutAt [1,1,0,1,2,2,1,1,0,2,1] (aA Tryz.f70).code)) = .no
 UN:cM E .no (opsOf (cutAt [1,1,0,1,2,2,1,1,0,2,1] (aA Tryz.f70).code)) = some [⟨1,12,false,true⟩,  ⟨1,19,false,true⟩,  ⟨4,12,false,true⟩,  ⟨4,19,false,true⟩,  ⟨4,22,false,true⟩,  ⟨12,14,true,false⟩,  ⟨12,18,true,false⟩]
 Xy:aN E (cutAt [1,1,1,0,1,2,2,1,1,0,2,1,0] (aA Tryz.f19).code) = true
 Tn:gE E (opsOf (cutAt [1,1,1,0,1,2,2,1,1,0,2,1,1,0] (aA Tryz.f19).code)) = .no
 UR:cM E .no (opsOf (cutAt [1,1,1,0,1,2,2,1,1,0,2,1,1,0] (aA Tryz.f19).code)) = some [⟨3,7,false,true⟩]
 SC:aN E (cutAt [1,1,1,0,1,2,2,1,1,0,2,1,1,1,1,1,2,2,1,1,0,2,1,0] (aA Tryz.f19).code) = true
 SA:aN E (cutAt [1,1,1,0,1,2,2,1,1,0,2,1,1,1,1,1,2,2,1,1,0,2,1,1] (aA Tryz.f19).code) = true
 Ti:gE E (opsOf (cutAt [1,0] (aA Tryz.f73).code)) = .no
 UM:cM E .no (opsOf (cutAt [1,0] (aA Tryz.f73).code)) = some [⟨3,6,false,true⟩]
 Xu:aN E (cutAt [1,1,0] (aA Tryz.f73).code) = true
 Th:gE E (opsOf (cutAt [1,1,1,2,2,1,1,0,2,1,0,1,0] (aA Tryz.f73).code)) = .no
 UL:cM E .no (opsOf (cutAt [1,1,1,2,2,1,1,0,2,1,0,1,0] (aA Tryz.f73).code)) = some [⟨1,4,false,true⟩,  ⟨3,4,false,true⟩]
 Tg:gE E (opsOf (cutAt [1,1,1,2,2,1,1,0,2,1,1] (aA Tryz.f73).code)) = .no
 UK:cM E .no (opsOf (cutAt [1,1,1,2,2,1,1,0,2,1,1] (aA Tryz.f73).code)) = some [⟨1,7,false,true⟩,  ⟨3,7,false,true⟩,  ⟨4,7,false,true⟩]
 Q8:gE E (opsOf (cutAt [1,1,1,1,0,1,2,2,1,1,0,2,1,1,1,1] (aA Tryz.f63).code)) = .no
 RT:cM E .no (opsOf (cutAt [1,1,1,1,0,1,2,2,1,1,0,2,1,1,1,1] (aA Tryz.f63).code)) = some [⟨2,4,false,true⟩]
section
variable {E:Env} {Z:Sg} {K:V -> Sg -> Prop}
theorem aB.up {f:Nat} {args:List V} {K:V -> Sg -> Prop} (h:aB E f args Z K):∃ n v σ',K v σ' /\ ∀ m,n <= m -> gG E (ev E m) f args Z = some (v,σ'):=by
 obtain ⟨n,v,σ',hc,hk⟩:=h
 exact ⟨n,v,σ',hk,fun m hm=>rO (lK E hm) hc⟩
theorem KS (h:bM E):sA E 35 true .aC .aC = some true:=by unfold sA; rw [h.fE]
theorem KR (h:bM E) {g:Bool} {rs:List (List V)} {f:Bool}:sA E 35 true (.bQ g rs f) .aC = some false:=by unfold sA; rw [h.fE]
theorem Lh (h:bM E) (h':x_ E) {a:V} {l:List AxS.Step} (ia:IS eV a l) (hl:l.length <= 1000):aB E 113 [a] Z fun v σ'=>bH eV 75 σ' v l /\ Kp Z σ' /\ ∀ b,aT v = some b -> Z.length <= b:=by
 rw [fK h'.Wj h'.T1 h'.W8 h'.Vr,bD (by kernel_rfl)]
 rcases ia with ⟨rfl,rfl⟩ | ⟨g,rs,full,rfl,ha⟩
 ·simp only [aA,Tryz.f113,KP,↓reduceIte,reduceLT,reduceCtorEq,KS h]
  exact ⟨.inl ⟨rfl,rfl⟩,fun _ _ h=>h,fun b hb=>by cases hb⟩
 ·obtain ⟨rs',e,ha'⟩:=qD (L:=eV) (x:=.bQ g rs full) (l:=l) (.inr ⟨g,rs,full,rfl,ha⟩) (Z ++ [O.cells 75 [] true])
  obtain ⟨w',τ',h1,h2,h3,h4,h5⟩:=i_ (ats:=#[35,35]) (Z:=Z ++ [O.cells 75 [] true]) (w:=.sl Z.length 0 0 none) (l:=[]) (L:=eV) h.fE rfl h.cP rfl (by decide) (Aa h) rfl (.inr ⟨Z.length,[],true,rfl,aR,.nil⟩) e ha' (dX (b:=1000) (by decide) (by simp only [length_nil]; omega))
  rw [List.nil_append] at h2
  simp only [aA,Tryz.f113,KP,↓reduceIte,reduceEqDiff,reduceLT,reduceLeDiff,reduceCtorEq,h.fE,h.cP,KR h,h1,Ax.fill,gR,Nat.zero_mul]
  refine ⟨h2,fun c o hc=>h3 _ _ (aL hc) fun e=>?_,fun b hb=>?_⟩
  ·cases e
   exact absurd (List.getElem?_eq_some_iff.1 hc).1 (Nat.lt_irrefl _)
  ·rcases h5 b hb with g | g
   ·cases g; exact Nat.le_refl _
   ·simp only [length_append,length_cons,length_nil] at g; omega
end
end
end Go.Proofs.YtlbbdpkjeeiahaaGreatDoor
end
