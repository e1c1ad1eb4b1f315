/- Part 15 of the proof. -/
import Derived.Test.YtlbbdpkjeeiahaaGreatDoorZ14
import Derived.Test.YtlbbdpkjeeiahaaGreatDoorZ0
import Derived.Test.YtlbbdpkjeeiahaaGreatDoorZ3
set_option maxHeartbeats 8000000
set_option linter.unusedVariables false
set_option maxRecDepth 10000
open Nat (reduceLT reduceAdd reduceEqDiff reduceLeDiff reduceMul)
open List (length_cons length_nil take_succ_cons take_nil drop_zero drop_nil mem_cons mem_cons_self mem_cons_of_mem flatten_cons take_of_length_le drop_of_length_le length_append length_take getElem?_append_left length_eq_zero_iff append_assoc mem_of_getElem? take_add_one mem_append)
open Int (reduceNeg reduceEq)
section
namespace Go.Ax
open Go
section
def FT.set (F:FT) (t:Nat) (v:V):FT:=FT.put v (t + 1) F t
theorem FT.jR {F:FT} {u t:Nat} {v:V}:(FT.set F u v).get t = if t = u then v else F.get t:=FT.aD v (u + 1) F u t (by omega)
theorem Fr.Ms {n u:Nat} {F:FT} {v:V}:Fr.put ⟨n,F⟩ u v = if u < n then ⟨n,FT.set F u v⟩ else ⟨n,F⟩:=by
 unfold Fr.put
 cases h:Nat.blt u n with
 | true=>rw [Nat.blt_eq] at h; rw [if_pos h]; rfl
 | false=>rw [if_neg]; intro g; rw [<- Nat.blt_eq] at g; rw [h] at g; cases g
theorem Fr.Ss {n t:Nat} {F:FT}:Fr.get ⟨n,F⟩ t = if t < n then some (F.get t) else none:=by
 unfold Fr.get
 cases h:Nat.blt t n with
 | true=>rw [Nat.blt_eq] at h; rw [if_pos h]
 | false=>rw [if_neg]; intro g; rw [<- Nat.blt_eq] at g; rw [h] at g; cases g
section
variable {E:Env} {fr:Fr} {Z:Sg} {ops:Array Oper} {l:List Oper} {Q:Fr -> Sg -> Prop} {dst:Option Nat} {op:Op} {ty:Nat} {pos:String} {after:Array Edge}
theorem A4:rZ E ops (⟨dst,op,ty,pos,after,none⟩ :: l) fr Z Q = jU E op fr Z fun v Z=>rZ E ops l (eG fr dst v) Z Q:=by
 rw [wpOps_cons]; exact if_pos rfl
end
section
variable {E:Env} {fr:Fr} {Z:Sg} {K:V -> Sg -> Prop}
theorem dN {o:Option (V × Sg)}:got o K = (match o with
  | some (v,Z)=>K v Z
  | none=>False):=rfl
def app3 (a b c:List V):Option (List V):=some (a ++ b ++ c)
theorem JT {x:Operand}:jU E (.move x) fr Z K = (match (aP fr x).map (·,Z) with
  | some (v,Z)=>K v Z
  | none=>False):=(bR (f:=fun fr Z=>(aP fr x).map (·,Z)) rfl).trans dN
theorem E0 {x:Operand}:jU E (.assign x) fr Z K = (match (aP fr x).map (·,Z) with
  | some (v,Z)=>K v Z
  | none=>False):=(bR (f:=fun fr Z=>(aP fr x).map (·,Z)) rfl).trans dN
theorem JR {c a b:Operand}:jU E (.pick c a b) fr Z K = (match jF E fr Z c a b with
  | some (v,Z)=>K v Z
  | none=>False):=(bR (f:=fun fr Z=>jF E fr Z c a b) rfl).trans dN
theorem G_ {e:Nat}:jU E (.alloc e) fr Z K = (match qW E fr Z e with
  | some (v,Z)=>K v Z
  | none=>False):=(bR (f:=fun fr Z=>qW E fr Z e) rfl).trans dN
theorem Lr {e:Nat} {x:Operand}:jU E (.box e x) fr Z K = (match FJ E fr Z e x with
  | some (v,Z)=>K v Z
  | none=>False):=(bR (f:=fun fr Z=>FJ E fr Z e x) rfl).trans dN
theorem G8 {t:Nat} {parts:Array (Nat × Operand)}:jU E (.build t parts) fr Z K = (match pH E fr Z t parts with
  | some (v,Z)=>K v Z
  | none=>False):=(bR (f:=fun fr Z=>pH E fr Z t parts) rfl).trans dN
theorem Av {t len:Nat} {parts:Array (Nat × Operand)}:jU E (.buildSlice t len parts) fr Z K = (match eW E fr Z t len parts with
  | some (v,Z)=>K v Z
  | none=>False):=by
 refine propext ⟨fun ⟨_,v,σ',h,hk⟩=>?_,fun h=>?_⟩
 ·have h:eW E fr Z t len parts = some (v,σ'):=h
  rw [h]; exact hk
 ·split at h
  ·rename_i v σ' e
   exact ⟨0,v,σ',e,h⟩
  ·exact h.elim
theorem JU {t:Nat} {a:Operand}:jU E (.load t a) fr Z K = (match gO E fr Z t a with
  | some (v,Z)=>K v Z
  | none=>False):=(bR (f:=fun fr Z=>gO E fr Z t a) rfl).trans dN
theorem G3 {t:Nat} {a x:Operand}:jU E (.store t a x) fr Z K = (match jE E fr Z t a x with
  | some (v,Z)=>K v Z
  | none=>False):=(bR (f:=fun fr Z=>jE E fr Z t a x) rfl).trans dN
theorem CG {x:Operand}:jU E (.nilCheck x) fr Z K = (match iO E fr Z x with
  | some (v,Z)=>K v Z
  | none=>False):=(bR (f:=fun fr Z=>iO E fr Z x) rfl).trans dN
theorem G9 {op:BinOp} {t u:Nat} {x y:Operand}:jU E (.binOp op t x y u) fr Z K = (match eI E fr Z op t x y with
  | some (v,Z)=>K v Z
  | none=>False):=(bR (f:=fun fr Z=>eI E fr Z op t x y) rfl).trans dN
theorem JQ {op:UnOp} {t:Nat} {x:Operand}:jU E (.unOp op t x) fr Z K = (match mZ E fr Z op x with
  | some (v,Z)=>K v Z
  | none=>False):=(bR (f:=fun fr Z=>mZ E fr Z op x) rfl).trans dN
theorem D3 {s d:Nat} {x:Operand}:jU E (.convert s d x) fr Z K = (match lG E fr Z s d x with
  | some (v,Z)=>K v Z
  | none=>False):=(bR (f:=fun fr Z=>lG E fr Z s d x) rfl).trans dN
theorem G5 {t:Nat} {x:Operand}:jU E (.range t x) fr Z K = (match oA E fr Z t x with
  | some (v,Z)=>K v Z
  | none=>False):=(bR (f:=fun fr Z=>oA E fr Z t x) rfl).trans dN
theorem JS {x:Operand}:jU E (.next x true) fr Z K = (match uN E fr Z x with
  | some (v,Z)=>K v Z
  | none=>False):=(bR (f:=fun fr Z=>uN E fr Z x) rfl).trans dN
theorem uX {t:Nat} {x:Operand}:jU E (.makeInterface t x) fr Z K = (match dP E fr Z t x with
  | some (v,Z)=>K v Z
  | none=>False):=(bR (f:=fun fr Z=>dP E fr Z t x) rfl).trans dN
theorem CH {f:Nat} {a b:Array Operand}:jU E (.makeFunc (.func f) a b) fr Z K = (match iP E fr Z f a b with
  | some (v,Z)=>K v Z
  | none=>False):=(bR (f:=fun fr Z=>iP E fr Z f a b) rfl).trans dN
theorem DY {t:Nat} {r:Option Operand}:jU E (.makeMap t r) fr Z K = (match lF E fr Z t r with
  | some (v,Z)=>K v Z
  | none=>False):=(bR (f:=fun fr Z=>lF E fr Z t r) rfl).trans dN
theorem A6 {t:Nat} {l c:Operand}:jU E (.makeSlice t l c) fr Z K = (match jG E fr Z t l c with
  | some (v,Z)=>K v Z
  | none=>False):=(bR (f:=fun fr Z=>jG E fr Z t l c) rfl).trans dN
theorem G4 {t:Nat} {x:Operand} {lo hi mx:Option Operand}:jU E (.slice t x lo hi mx) fr Z K = (match qV E fr Z t x lo hi mx with
  | some (v,Z)=>K v Z
  | none=>False):=(bR (f:=fun fr Z=>qV E fr Z t x lo hi mx) rfl).trans dN
theorem A8 {t f:Nat} {x:Operand}:jU E (.fieldAddr t x f) fr Z K = (match gJ E fr Z t x f with
  | some (v,Z)=>K v Z
  | none=>False):=(bR (f:=fun fr Z=>gJ E fr Z t x f) rfl).trans dN
theorem G7 {t f:Nat} {x:Operand}:jU E (.field t x f) fr Z K = (match pG E fr Z t x f with
  | some (v,Z)=>K v Z
  | none=>False):=(bR (f:=fun fr Z=>pG E fr Z t x f) rfl).trans dN
theorem A7 {t:Nat} {x i:Operand}:jU E (.indexAddr t x i) fr Z K = (match bT E fr Z t x i with
  | some (v,Z)=>K v Z
  | none=>False):=(bR (f:=fun fr Z=>bT E fr Z t x i) rfl).trans dN
theorem G6 {t:Nat} {x i:Operand}:jU E (.index t x i) fr Z K = (match pF E fr Z t x i with
  | some (v,Z)=>K v Z
  | none=>False):=(bR (f:=fun fr Z=>pF E fr Z t x i) rfl).trans dN
theorem EZ {t:Nat} {x k:Operand} {ok:Bool}:jU E (.lookup t x k ok) fr Z K = (match dK E fr Z t x k ok with
  | some (v,Z)=>K v Z
  | none=>False):=(bR (f:=fun fr Z=>dK E fr Z t x k ok) rfl).trans dN
theorem A5 {t:Nat} {m k x:Operand}:jU E (.mapUpdate t m k x) fr Z K = (match dH E fr Z t m k x with
  | some (v,Z)=>K v Z
  | none=>False):=(bR (f:=fun fr Z=>dH E fr Z t m k x) rfl).trans dN
theorem DZ {t:Operand} {i:Nat}:jU E (.extract t i) fr Z K = (match cI E fr Z t i with
  | some (v,Z)=>K v Z
  | none=>False):=(bR (f:=fun fr Z=>cI E fr Z t i) rfl).trans dN
theorem D4 {b:Builtin} {args:Array Operand} {ats:Array Nat}:jU E (.call { callee:=.builtin b,args:=args,argTypes:=ats }) fr Z K = (match eA E fr Z b args ats with
  | some (v,Z)=>K v Z
  | none=>False):=by
 refine propext ⟨fun ⟨_,v,σ',h,hk⟩=>?_,fun h=>?_⟩
 ·have h:eA E fr Z b args ats = some (v,σ'):=by cases b <;> exact h
  rw [h]; exact hk
 ·split at h
  ·rename_i v σ' e
   exact ⟨0,v,σ',by cases b <;> exact e,h⟩
  ·exact h.elim
theorem JV {f:Operand} {args:Array Operand} {ats:Array Nat}:jU E (.call { callee:=.value f,args:=args,argTypes:=ats }) fr Z K = match aP fr f,eK fr args.toList with
  | some (.fn k first cap),some l=>(match app3 first l cap with
   | some l=>aB E k l Z K
   | none=>False)
  | _,_=>False:=by
 refine propext ⟨fun ⟨n,v,σ',h,hk⟩=>?_,fun h=>?_⟩
 ·have h:(match aP fr f,eK fr args.toList with
   | some (.fn k first cap),some l=>gG E (ev E n) k (first ++ l ++ cap) Z
   | _,_=>no "call") = some (v,σ'):=h
  split at h
  ·exact ⟨n,v,σ',h,hk⟩
  ·cases h
 ·split at h
  ·rename_i e1 e2
   obtain ⟨n,v,σ',h,hk⟩:=h
   refine ⟨n,v,σ',?_,hk⟩
   show (match aP fr f,eK fr args.toList with
    | some (.fn k first cap),some l=>gG E (ev E n) k (first ++ l ++ cap) Z
    | _,_=>no "call") = some (v,σ')
   rw [e1,e2]; exact h
  ·exact h.elim
def Ej (E:Env) (rs:List ResultVar) (K:V -> Sg -> Prop) (fr:Fr) (Z:Sg):Prop:=match results E fr Z rs with
 | some [v]=>K v Z
 | some vs=>K (.fN vs) Z
 | none=>False
def mL (E:Env) (F:Fn) (args:List V) (Z:Sg) (K:V -> Sg -> Prop):Prop:=match Fr.init F.ntmps args with
 | none=>False
 | some fr=>Wp E F.code fr Z fun x fr Z=>match x with
  | .exit _=>False
  | _=>Ej E F.results K fr Z
theorem sD {F:Fn} {args:List V}:mL E F args Z K ↔ ∃ n v σ',enter E (ev E n) F args Z = some (v,σ') /\ K v σ':=by
 unfold mL enter
 cases hi:Fr.init F.ntmps args with
 | none=>exact ⟨fun h=>h.elim,fun ⟨_,_,_,h,_⟩=>by cases h⟩
 | some fr=>
  try dsimp only
  constructor
  ·rintro ⟨n,x,fr',σ',h,hq⟩
   refine ⟨n,?_⟩
   rw [h]
   cases x with
   | exit id=>exact hq.elim
   | normal=>
    simp only [Ej] at hq
    split at hq
    ·rename_i v e; exact ⟨v,σ',by simp only [e],hq⟩
    ·rename_i vs hn e
     refine ⟨.fN vs,σ',?_,hq⟩
     simp only [e]
    ·exact hq.elim
   | ret=>
    simp only [Ej] at hq
    split at hq
    ·rename_i v e; exact ⟨v,σ',by simp only [e],hq⟩
    ·rename_i vs hn e
     refine ⟨.fN vs,σ',?_,hq⟩
     simp only [e]
    ·exact hq.elim
  ·rintro ⟨n,v,σ',h,hk⟩
   have fin:∀ (fr1:Fr) (σ1:Sg),(match results E fr1 σ1 F.results with
     | some [v]=>some (v,σ1)
     | some vs=>some (V.fN vs,σ1)
     | none=>no "results") = some (v,σ') -> Ej E F.results K fr1 σ1:=by
    intro fr1 σ1 h
    unfold Ej
    split at h
    ·cases h; exact hk
    ·rename_i vs hn e
     cases h
     cases vs with
     | nil=>exact hk
     | cons a l=>cases l with
      | nil=>exact absurd rfl (hn a)
      | cons b l=>exact hk
    ·cases h
   cases he:ev E n F.code fr Z with
   | none=>rw [he] at h; cases h
   | some y=>
    obtain ⟨x,fr1,σ1⟩:=y
    rw [he] at h
    refine ⟨n,x,fr1,σ1,he,?_⟩
    cases x with
    | exit id=>cases h
    | normal=>exact fin _ _ h
    | ret=>exact fin _ _ h
theorem nD {f:Nat} {args:List V} {s:List V -> Sg -> Option (V × Sg)} (h1:E.hspec f = some s):aB E f args Z K = got (s args Z) K:=by
 unfold aB gG
 rw [h1]
 dsimp only
 cases s args Z with
 | none=>exact propext ⟨fun ⟨_,_,_,h,_⟩=>(by cases h),fun h=>h.elim⟩
 | some y=>exact propext ⟨fun ⟨_,_,_,h,hk⟩=>(by cases h; exact hk),fun h=>⟨0,_,_,rfl,h⟩⟩
theorem sE {f:Nat} {args args':List V} {s:List V -> Option V} {v v':V} (h1:E.hspec f = none) (h2:E.spec f = some s) (h3:aX (aZ Z E.ty true) args = some args') (h4:s args' = some v) (h5:cT [] E.ty false v = some v'):aB E f args Z K = K v' Z:=by
 have:∀ r,gG E r f args Z = some (v',Z):=fun r=>by
  unfold gG
  rw [h1,h2,h3]
  dsimp only
  rw [h4]
  dsimp only
  rw [h5]
 exact propext ⟨fun ⟨n,_,_,h,hk⟩=>(by rw [this] at h; cases h; exact hk),fun h=>⟨0,_,_,this _,h⟩⟩
theorem fK {f:Nat} {args:List V} {F:Fn} (h1:E.hspec f = none) (h2:E.spec f = none) (h3:E.fn f = some F) (h4:E.mode f = .shared):aB E f args Z K = mL E F args Z K:=by
 rw [propext sD]
 unfold aB gG
 rw [h1,h2,h3,h4]
 dsimp only
 refine propext ⟨fun ⟨n,v,σ',h,hk⟩=>⟨n,v,σ',?_,hk⟩,fun ⟨n,v,σ',h,hk⟩=>⟨n,v,σ',by rw [h],hk⟩⟩
 split at h
 ·rename_i e; rw [e]; exact h
 ·cases h
theorem aH {f:Nat} {args args':List V} {F:Fn} (h1:E.hspec f = none) (h2:E.spec f = none) (h3:E.fn f = some F) (h4:E.mode f = .eT) (h5:aX (aZ Z E.ty true) args = some args') :
  aB E f args Z K = mL E F args' [] fun v σ1=>match cT σ1 E.ty false v with
   | some v=>K v Z
   | none=>False:=by
 rw [propext sD]
 unfold aB gG
 rw [h1,h2,h3,h4]
 dsimp only
 rw [h5]
 dsimp only
 refine propext ⟨fun ⟨n,v,σ',h,hk⟩=>?_,fun ⟨n,v,σ',h,hk⟩=>?_⟩
 ·cases he:enter E (ev E n) F args' [] with
  | none=>rw [he] at h; cases h
  | some y=>
   obtain ⟨u,σ1⟩:=y
   rw [he] at h
   dsimp only at h
   refine ⟨n,u,σ1,he,?_⟩
   cases hs:cT σ1 E.ty false u with
   | none=>rw [hs] at h; cases h
   | some v1=>rw [hs] at h; cases h; exact hk
 ·cases hs:cT σ' E.ty false v with
  | none=>rw [hs] at hk; exact hk.elim
  | some v1=>
   rw [hs] at hk
   refine ⟨n,v1,Z,?_,hk⟩
   rw [h]
   dsimp only
   rw [hs]
   rfl
theorem mL.mono {F:Fn} {args:List V} {K':V -> Sg -> Prop} (h:mL E F args Z K) (hk:∀ v Z,K v Z -> K' v Z):mL E F args Z K':=by
 rw [sD] at h ⊢
 obtain ⟨n,v,σ',h,hk'⟩:=h
 exact ⟨n,v,σ',h,hk _ _ hk'⟩
theorem aB.mono {f:Nat} {args:List V} {K':V -> Sg -> Prop} (h:aB E f args Z K) (hk:∀ v Z,K v Z -> K' v Z):aB E f args Z K':=by
 obtain ⟨n,v,σ',h,hk'⟩:=h
 exact ⟨n,v,σ',h,hk _ _ hk'⟩
def I6:List Oper -> Bool
 | []=>true
 | o :: l=>(match o.op with
  | .buildSlice ..=>false
  | .call { callee:=.builtin .append,.. }=>false
  | _=>true) && I6 l
theorem Kj {ev:xY} {dr:Fz} {op:Op} {fr:Fr} (h:(match op with
  | .buildSlice ..=>false
  | .call { callee:=.builtin .append,.. }=>false
  | _=>true) = true):kC E ev dr op fr Z = kC E ev .no op fr Z:=by
 cases op with
 | buildSlice t len parts=>cases h
 | call cc=>
  obtain ⟨callee,args,ats⟩:=cc
  cases callee with
  | builtin b=>cases b <;> first | rfl | cases h
  | _=>rfl
 | _=>rfl
theorem Ak {ev:xY} {dr:Fz} {ops:Array Oper}:∀ {l:List Oper} {fr:Fr} {Z:Sg},I6 l = true -> fU E ev dr ops l fr Z = fU E ev .no ops l fr Z
 | [],_,_,_=>rfl
 | o :: l,fr,Z,h=>by
  simp only [I6,Bool.and_eq_true] at h
  have e:bJ E ev dr ops o fr Z = bJ E ev .no ops o fr Z:=by
   unfold bJ
   rw [Kj h.1]
  rw [fU,fU,e]
  cases bJ E ev .no ops o fr Z with
  | none=>rfl
  | some y=>exact Ak h.2
def aN (E:Env):Code -> Bool
 | .region _ ops true=>(match cM E (gE E ops) ops with
  | some []=>true
  | _=>false) && (I6 ops.toList || (match gE E ops with | .no=>true | _=>false))
 | _=>false
def cB:Code -> Code
 | .region id ops _=>.region id ops false
 | c=>c
theorem JO {c:Code} {fr:Fr} {Q:X -> Fr -> Sg -> Prop} (h:aN E c = true):Wp E c fr Z Q = Wp E (cB c) fr Z Q:=by
 unfold aN at h
 split at h
 case h_2=>cases h
 rename_i id ops
 rw [Bool.and_eq_true] at h
 obtain ⟨h1,h2⟩:=h
 show _ = Wp E (.region id ops false) fr Z Q
 rw [Ip,Lq]
 unfold Oa rZ cC
 cases hp:cM E (gE E ops) ops with
 | none=>rw [hp] at h1; cases h1
 | some l=>
  rw [hp] at h1
  cases l with
  | cons d l=>cases h1
  | nil=>
   simp only
   cases hd:gE E ops with
   | no=>rfl
   | _=>
    rw [hd] at h2
    simp only [Bool.or_false] at h2
    simp only [Ak h2]
def opsOf:Code -> Array Oper
 | .region _ ops _=>ops
 | _=>#[]
def cutAt:List Nat -> Code -> Code
 | [],c=>c
 | 0 :: p,.seq a _=>cutAt p a
 | 1 :: p,.seq _ b=>cutAt p b
 | 2 :: p,.block _ c=>cutAt p c
 | 2 :: p,.loop c=>cutAt p c
 | 0 :: p,.cond _ a _=>cutAt p a
 | 1 :: p,.cond _ _ b=>cutAt p b
 | _,c=>c
end
end
section
theorem QW:((0:Nat):Int) = 0:=rfl
theorem Rn:(0:Int).toNat = 0:=rfl
theorem SQ:(false == true) = false:=rfl
theorem SP:(true == false) = false:=rfl
inductive kY where
 | k (c:Code) | blk (id:Nat) | lp (c:Code)
def M (E:Env):List kY -> X -> Fr -> Sg -> (X -> Fr -> Sg -> Prop) -> Prop
 | [],x,fr,Z,Q=>Q x fr Z
 | .k c :: s,.normal,fr,Z,Q=>Wp E c fr Z fun x fr Z=>M E s x fr Z Q
 | .k _ :: s,x,fr,Z,Q=>M E s x fr Z Q
 | .blk id :: s,.exit i,fr,Z,Q=>if i = id then M E s .normal fr Z Q else M E s (.exit i) fr Z Q
 | .blk _ :: s,x,fr,Z,Q=>M E s x fr Z Q
 | .lp c :: s,.normal,fr,Z,Q=>Wp E (.loop c) fr Z fun x fr Z=>M E s x fr Z Q
 | .lp _ :: s,x,fr,Z,Q=>M E s x fr Z Q
def R (E:Env) (c:Code) (s:List kY) (fr:Fr) (Z:Sg) (Q:X -> Fr -> Sg -> Prop):Prop:=Wp E c fr Z fun x fr Z=>M E s x fr Z Q
def dD (E:Env) (ops:Array Oper) (l:List Oper) (st:Option (Fr × Sg)) (s:List kY) (Q:X -> Fr -> Sg -> Prop):Prop:=match st with
 | some (fr,Z)=>rZ E ops l fr Z fun fr Z=>M E s .normal fr Z Q
 | none=>False
def vG (dst:Option Nat) (fr:Fr) (o:Option (V × Sg)):Option (Fr × Sg):=match o with
 | some (v,Z)=>some (eG fr dst v,Z)
 | none=>none
def Od (E:Env) (f:Nat) (args:List V) (Z:Sg) (dst:Option Nat) (fr:Fr) (ops:Array Oper) (l:List Oper) (s:List kY) (Q:X -> Fr -> Sg -> Prop):Prop:=aB E f args Z fun v Z=>dD E ops l (some (eG fr dst v,Z)) s Q
section
variable {E:Env} {s:List kY} {fr:Fr} {Z:Sg} {Q:X -> Fr -> Sg -> Prop}
theorem Vz {x:X}:M E [] x fr Z Q = Q x fr Z:=rfl
theorem R1 {c:Code}:M E (.k c :: s) .normal fr Z Q = R E c s fr Z Q:=rfl
theorem MP {c:Code} {i:Nat}:M E (.k c :: s) (.exit i) fr Z Q = M E s (.exit i) fr Z Q:=rfl
theorem O5 {c:Code}:M E (.k c :: s) .ret fr Z Q = M E s .ret fr Z Q:=rfl
theorem VA {id:Nat}:M E (.blk id :: s) .normal fr Z Q = M E s .normal fr Z Q:=rfl
theorem HG {id i:Nat}:M E (.blk id :: s) (.exit i) fr Z Q = if i = id then M E s .normal fr Z Q else M E s (.exit i) fr Z Q:=rfl
theorem Kv {id:Nat}:M E (.blk id :: s) .ret fr Z Q = M E s .ret fr Z Q:=rfl
theorem m_lp {c:Code}:M E (.lp c :: s) .normal fr Z Q = R E (.loop c) s fr Z Q:=rfl
theorem Ku {c:Code} {i:Nat}:M E (.lp c :: s) (.exit i) fr Z Q = M E s (.exit i) fr Z Q:=rfl
theorem MO {c:Code}:M E (.lp c :: s) .ret fr Z Q = M E s .ret fr Z Q:=rfl
theorem RP:R E .skip s fr Z Q = M E s .normal fr Z Q:=wp_skip
theorem RQ {i:Nat}:R E (.exit i) s fr Z Q = M E s (.exit i) fr Z Q:=wp_exit
theorem Uu:R E .ret s fr Z Q = M E s .ret fr Z Q:=wp_ret
theorem Ut {a b:Code}:R E (.seq a b) s fr Z Q = R E a (.k b :: s) fr Z Q:=by
 unfold R
 rw [wp_seq]
 congr 1
 funext x fr Z
 cases x <;> rfl
theorem OP {id:Nat} {c:Code}:R E (.block id c) s fr Z Q = R E c (.blk id :: s) fr Z Q:=by
 unfold R
 rw [wp_block]
 congr 1
 funext x fr Z
 cases x <;> rfl
theorem aG {c:Code}:R E (.loop c) s fr Z Q = R E c (.lp c :: s) fr Z Q:=by
 unfold R
 rw [wp_loop]
 congr 1
 funext x fr Z
 cases x <;> rfl
def H8 (o:Option V):Option Bool:=match o with
 | some (.bool b)=>some b
 | _=>none
theorem GC {b:Bool}:H8 (some (.bool b)) = some b:=rfl
theorem RR {c:Operand} {t e:Code}:R E (.cond c t e) s fr Z Q = if H8 (aP fr c) = some true then R E t s fr Z Q else if H8 (aP fr c) = some false then R E e s fr Z Q else False:=by
 unfold R
 rw [wp_cond]
 cases aP fr c with
 | none=>rfl
 | some v=>
  cases v with
  | bool b=>cases b <;> rfl
  | _=>rfl
theorem Uv {id:Nat} {l:List Oper}:R E (.region id l.toArray false) s fr Z Q = dD E l.toArray l (some (fr,Z)) s Q:=Lq
theorem bI {c:Code} (h:aN E c = true):R E c s fr Z Q = R E (cB c) s fr Z Q:=JO h
variable {ops:Array Oper} {l:List Oper} {dst:Option Nat} {ty:Nat} {pos:String} {after:Array Edge}
theorem Sa:dD E ops l none s Q = False:=rfl
theorem VI:dD E ops [] (some (fr,Z)) s Q = M E s .normal fr Z Q:=JP
theorem Pw {op:Op} {j:Nat} {w:Bool}:dD E ops (⟨dst,op,ty,pos,after,some (j,w)⟩ :: l) (some (fr,Z)) s Q = if yielded ops fr j = some w then dD E ops (⟨dst,op,ty,pos,after,none⟩ :: l) (some (fr,Z)) s Q else dD E ops l (some (eG fr dst .undef,Z)) s Q:=by
 show rZ E ops (⟨dst,op,ty,pos,after,some (j,w)⟩ :: l) fr Z _ = _
 rw [wpOps_cons]
 by_cases h:yielded ops fr j = some w
 ·rw [if_pos h,if_pos (by show (yielded ops fr j == some w) = true; rw [h]; simp)]
  exact A4.symm
 ·rw [if_neg h,if_neg]
  ·rfl
  ·intro g
   have g:(yielded ops fr j == some w) = true:=g
   exact h (by simpa using g)
theorem lU {op:Op} {o:Option (V × Sg)} (h:∀ K,jU E op fr Z K = (match o with
  | some (v,Z)=>K v Z
  | none=>False)):dD E ops (⟨dst,op,ty,pos,after,none⟩ :: l) (some (fr,Z)) s Q = dD E ops l (vG dst fr o) s Q:=by
 show rZ E ops (⟨dst,op,ty,pos,after,none⟩ :: l) fr Z _ = _
 rw [A4,h]
 cases o with
 | none=>rfl
 | some y=>rfl
theorem Se {x:Operand}:dD E ops (⟨dst,.move x,ty,pos,after,none⟩ :: l) (some (fr,Z)) s Q = dD E ops l (vG dst fr ((aP fr x).map (·,Z))) s Q:=lU fun _=>JT
theorem M7 {x:Operand}:dD E ops (⟨dst,.assign x,ty,pos,after,none⟩ :: l) (some (fr,Z)) s Q = dD E ops l (vG dst fr ((aP fr x).map (·,Z))) s Q:=lU fun _=>E0
theorem R_ {c a b:Operand}:dD E ops (⟨dst,.pick c a b,ty,pos,after,none⟩ :: l) (some (fr,Z)) s Q = dD E ops l (vG dst fr (jF E fr Z c a b)) s Q:=lU fun _=>JR
theorem PC {e:Nat}:dD E ops (⟨dst,.alloc e,ty,pos,after,none⟩ :: l) (some (fr,Z)) s Q = dD E ops l (vG dst fr (qW E fr Z e)) s Q:=lU fun _=>G_
theorem VJ {e:Nat} {x:Operand}:dD E ops (⟨dst,.box e x,ty,pos,after,none⟩ :: l) (some (fr,Z)) s Q = dD E ops l (vG dst fr (FJ E fr Z e x)) s Q:=lU fun _=>Lr
theorem PA {t:Nat} {parts:Array (Nat × Operand)}:dD E ops (⟨dst,.build t parts,ty,pos,after,none⟩ :: l) (some (fr,Z)) s Q = dD E ops l (vG dst fr (pH E fr Z t parts)) s Q:=lU fun _=>G8
theorem EB {t len:Nat} {parts:Array (Nat × Operand)}:dD E ops (⟨dst,.buildSlice t len parts,ty,pos,after,none⟩ :: l) (some (fr,Z)) s Q = dD E ops l (vG dst fr (eW E fr Z t len parts)) s Q:=lU fun _=>Av
theorem Sf {t:Nat} {a:Operand}:dD E ops (⟨dst,.load t a,ty,pos,after,none⟩ :: l) (some (fr,Z)) s Q = dD E ops l (vG dst fr (gO E fr Z t a)) s Q:=lU fun _=>JU
theorem Pr {t:Nat} {a x:Operand}:dD E ops (⟨dst,.store t a x,ty,pos,after,none⟩ :: l) (some (fr,Z)) s Q = dD E ops l (vG dst fr (jE E fr Z t a x)) s Q:=lU fun _=>G3
theorem HP {x:Operand}:dD E ops (⟨dst,.nilCheck x,ty,pos,after,none⟩ :: l) (some (fr,Z)) s Q = dD E ops l (vG dst fr (iO E fr Z x)) s Q:=lU fun _=>CG
theorem PB {op:BinOp} {t:Nat} {x y:Operand} {u:Nat}:dD E ops (⟨dst,.binOp op t x y u,ty,pos,after,none⟩ :: l) (some (fr,Z)) s Q = dD E ops l (vG dst fr (eI E fr Z op t x y)) s Q:=lU fun _=>G9
theorem R8 {op:UnOp} {t:Nat} {x:Operand}:dD E ops (⟨dst,.unOp op t x,ty,pos,after,none⟩ :: l) (some (fr,Z)) s Q = dD E ops l (vG dst fr (mZ E fr Z op x)) s Q:=lU fun _=>JQ
theorem KE {u d:Nat} {x:Operand}:dD E ops (⟨dst,.convert u d x,ty,pos,after,none⟩ :: l) (some (fr,Z)) s Q = dD E ops l (vG dst fr (lG E fr Z u d x)) s Q:=lU fun _=>D3
theorem Pt {t:Nat} {x:Operand}:dD E ops (⟨dst,.range t x,ty,pos,after,none⟩ :: l) (some (fr,Z)) s Q = dD E ops l (vG dst fr (oA E fr Z t x)) s Q:=lU fun _=>G5
theorem AB {t:Nat} {x:Operand}:dD E ops (⟨dst,.makeInterface t x,ty,pos,after,none⟩ :: l) (some (fr,Z)) s Q = dD E ops l (vG dst fr (dP E fr Z t x)) s Q:=lU fun _=>uX
theorem KB {t:Nat} {r:Option Operand}:dD E ops (⟨dst,.makeMap t r,ty,pos,after,none⟩ :: l) (some (fr,Z)) s Q = dD E ops l (vG dst fr (lF E fr Z t r)) s Q:=lU fun _=>DY
theorem Ga {t:Nat} {a c:Operand}:dD E ops (⟨dst,.makeSlice t a c,ty,pos,after,none⟩ :: l) (some (fr,Z)) s Q = dD E ops l (vG dst fr (jG E fr Z t a c)) s Q:=lU fun _=>A6
theorem Ps {t:Nat} {x:Operand} {lo hi mx:Option Operand}:dD E ops (⟨dst,.slice t x lo hi mx,ty,pos,after,none⟩ :: l) (some (fr,Z)) s Q = dD E ops l (vG dst fr (qV E fr Z t x lo hi mx)) s Q:=lU fun _=>G4
theorem Gc {t:Nat} {x:Operand} {f:Nat}:dD E ops (⟨dst,.fieldAddr t x f,ty,pos,after,none⟩ :: l) (some (fr,Z)) s Q = dD E ops l (vG dst fr (gJ E fr Z t x f)) s Q:=lU fun _=>A8
theorem Pz {t:Nat} {x:Operand} {f:Nat}:dD E ops (⟨dst,.field t x f,ty,pos,after,none⟩ :: l) (some (fr,Z)) s Q = dD E ops l (vG dst fr (pG E fr Z t x f)) s Q:=lU fun _=>G7
theorem Gb {t:Nat} {x i:Operand}:dD E ops (⟨dst,.indexAddr t x i,ty,pos,after,none⟩ :: l) (some (fr,Z)) s Q = dD E ops l (vG dst fr (bT E fr Z t x i)) s Q:=lU fun _=>A7
theorem Pv {t:Nat} {x i:Operand}:dD E ops (⟨dst,.index t x i,ty,pos,after,none⟩ :: l) (some (fr,Z)) s Q = dD E ops l (vG dst fr (pF E fr Z t x i)) s Q:=lU fun _=>G6
theorem M5 {t:Nat} {x k:Operand} {ok:Bool}:dD E ops (⟨dst,.lookup t x k ok,ty,pos,after,none⟩ :: l) (some (fr,Z)) s Q = dD E ops l (vG dst fr (dK E fr Z t x k ok)) s Q:=lU fun _=>EZ
theorem F_ {t:Nat} {m k x:Operand}:dD E ops (⟨dst,.mapUpdate t m k x,ty,pos,after,none⟩ :: l) (some (fr,Z)) s Q = dD E ops l (vG dst fr (dH E fr Z t m k x)) s Q:=lU fun _=>A5
theorem KD {t:Operand} {i:Nat}:dD E ops (⟨dst,.extract t i,ty,pos,after,none⟩ :: l) (some (fr,Z)) s Q = dD E ops l (vG dst fr (cI E fr Z t i)) s Q:=lU fun _=>DZ
theorem Sb {x:Operand}:dD E ops (⟨dst,.next x true,ty,pos,after,none⟩ :: l) (some (fr,Z)) s Q = dD E ops l (vG dst fr (uN E fr Z x)) s Q:=lU fun _=>JS
theorem HQ {f:Nat} {a b:Array Operand}:dD E ops (⟨dst,.makeFunc (.func f) a b,ty,pos,after,none⟩ :: l) (some (fr,Z)) s Q = dD E ops l (vG dst fr (iP E fr Z f a b)) s Q:=lU fun _=>CH
theorem KF {b:Builtin} {args:Array Operand} {ats:Array Nat}:dD E ops (⟨dst,.call { callee:=.builtin b,args:=args,argTypes:=ats },ty,pos,after,none⟩ :: l) (some (fr,Z)) s Q = dD E ops l (vG dst fr (eA E fr Z b args ats)) s Q:=lU fun _=>D4
theorem Si {f:Operand} {args:List Operand} {ats:Array Nat}:dD E ops (⟨dst,.call { callee:=.value f,args:=args.toArray,argTypes:=ats },ty,pos,after,none⟩ :: l) (some (fr,Z)) s Q = match aP fr f,eK fr args with
  | some (.fn k first cap),some l'=>Od E k (first ++ l' ++ cap) Z dst fr ops l s Q
  | _,_=>False:=by
 show rZ E ops (⟨dst,.call { callee:=.value f,args:=args.toArray,argTypes:=ats },ty,pos,after,none⟩ :: l) fr Z _ = _
 rw [A4,JV]
 rfl
abbrev KC (E:Env) (f:Nat) (args:List V) (Z:Sg) (v:V) (σ':Sg):Prop:=∀ (dst:Option Nat) (fr:Fr) (ops:Array Oper) (l:List Oper) (s:List kY) (Q:X -> Fr -> Sg -> Prop),Od E f args Z dst fr ops l s Q = dD E ops l (some (eG fr dst v,σ')) s Q
theorem dA {f:Nat} {args:List V} {v:V} {σ':Sg} (h:∀ K,aB E f args Z K = K v σ'):KC E f args Z v σ':=fun _ _ _ _ _ _=>h _
theorem aU {f:Nat} {args:List V} {P:V -> Sg -> Prop} (h:aB E f args Z P) (hp:∀ v σ',P v σ' -> dD E ops l (some (eG fr dst v,σ')) s Q):Od E f args Z dst fr ops l s Q:=h.mono hp
end
theorem iI {E:Env} {s:List kY} {fr fr':Fr} {Z σ':Sg} {Q:X -> Fr -> Sg -> Prop} {id n:Nat} {ops:Array Oper} (h:cC E (ev E n) ops fr Z = some (fr',σ')):R E (.region id ops true) s fr Z Q = M E s .normal fr' σ' Q:=by
 unfold R
 rw [Ip]
 refine propext ⟨fun ⟨m,fr1,σ1,h1,hq⟩=>?_,fun hq=>⟨n,fr',σ',h,hq⟩⟩
 have a:=tG (lK E (Nat.le_max_left n m)) h
 rw [tG (lK E (Nat.le_max_right n m)) h1] at a
 cases a
 exact hq
def lT (E:Env) (rs:List ResultVar) (K:V -> Sg -> Prop) (x:X) (fr:Fr) (Z:Sg):Prop:=match x with
 | .exit _=>False
 | _=>Ej E rs K fr Z
theorem Qa {E:Env} {rs:List ResultVar} {K:V -> Sg -> Prop} {fr:Fr} {Z:Sg}:lT E rs K .ret fr Z = Ej E rs K fr Z:=rfl
theorem HY {E:Env} {rs:List ResultVar} {K:V -> Sg -> Prop} {fr:Fr} {Z:Sg}:lT E rs K .normal fr Z = Ej E rs K fr Z:=rfl
theorem Sw {E:Env} {F:Fn} {args:List V} {Z:Sg} {K:V -> Sg -> Prop} {fr:Fr} (h:Fr.init F.ntmps args = some fr):mL E F args Z K = R E F.code [] fr Z (lT E F.results K):=by
 unfold mL
 rw [h]
 show Wp E F.code fr Z _ = Wp E F.code fr Z _
 congr 1
theorem Wx {F:FT} {u:Nat} {v:V}:(FT.set F u v).get u = v:=by rw [FT.jR,if_pos rfl]
theorem Ww {F:FT} {t u:Nat} {v:V} (h:t ≠ u):(FT.set F u v).get t = F.get t:=by rw [FT.jR,if_neg h]
def FT.fill (F:FT) (i:Nat):List V -> FT
 | []=>F
 | v :: r=>FT.fill (FT.set F i v) (i + 1) r
theorem Xg {F:FT} {i:Nat}:FT.fill F i [] = F:=rfl
theorem Xf {F:FT} {i:Nat} {v:V} {r:List V}:FT.fill F i (v :: r) = FT.fill (FT.set F i v) (i + 1) r:=rfl
abbrev GS:=And.intro @Wx (And.intro @Ww (And.intro @Xg (And.intro @Xf @QW)))
theorem fill_eq {n:Nat}:∀ (l:List V) (F:FT) (i:Nat),i + l.length <= n -> Fr.fill ⟨n,F⟩ i l = ⟨n,FT.fill F i l⟩
 | [],_,_,_=>rfl
 | v :: l,F,i,h=>by
  simp only [length_cons] at h
  rw [Fr.fill,Fr.Ms,if_pos (by omega),fill_eq l _ _ (by omega)]
  rfl
theorem bD {E:Env} {F:Fn} {args:List V} {Z:Sg} {K:V -> Sg -> Prop} (h:Nat.ble args.length F.ntmps = true):mL E F args Z K = R E F.code [] ⟨F.ntmps,FT.fill .leaf 0 args⟩ Z (lT E F.results K):=by
 refine Sw ?_
 unfold Fr.init
 rw [h]
 dsimp only
 rw [fill_eq _ _ _ (by rw [Nat.zero_add]; exact Nat.le_of_ble_eq_true h)]
end
end Go.Ax
end
section
namespace Go.Proofs.YtlbbdpkjeeiahaaGreatDoor
open Go Go.Ax
abbrev KP:=(And.intro (And.intro (And.intro (And.intro (And.intro (And.intro (And.intro (And.intro @QW @Rn) (And.intro @SQ @SP)) (And.intro (And.intro @Vz @R1) (And.intro @MP @O5))) (And.intro (And.intro (And.intro @VA @HG) (And.intro @Kv @m_lp)) (And.intro (And.intro @Ku @MO) (And.intro @RP @RQ)))) (And.intro (And.intro (And.intro (And.intro @Uu @Ut) (And.intro @OP @RR)) (And.intro (And.intro @Uv @GC) (And.intro @Qa @HY))) (And.intro (And.intro (And.intro @Se @M7) (And.intro @R_ @PC)) (And.intro (And.intro @VJ @PA) (And.intro @EB @Sf))))) (And.intro (And.intro (And.intro (And.intro (And.intro @Pr @HP) (And.intro @PB @R8)) (And.intro (And.intro @KE @Pt) (And.intro @Sb @AB))) (And.intro (And.intro (And.intro @HQ @KB) (And.intro @Ga @Ps)) (And.intro (And.intro @Gc @Pz) (And.intro @Gb @Pv)))) (And.intro (And.intro (And.intro (And.intro @M5 @F_) (And.intro @KD @KF)) (And.intro (And.intro @Si @Pw) (And.intro @VI @Sa))) (And.intro (And.intro (And.intro @Ax.Fr.Ms @Ax.Fr.Ss) (And.intro @FT.jR @FT.tA)) (And.intro (And.intro @if_true.{1} @if_false.{1}) (And.intro @ite_true.{1} @ite_false.{1})))))) (And.intro (And.intro (And.intro (And.intro (And.intro (And.intro @true_and @and_true) (And.intro @false_and @and_false)) (And.intro (And.intro @Option.map_some.{0,0} @Option.map_none.{0,0}) (And.intro @Option.bind_some.{0,0} @Option.bind_none.{0,0}))) (And.intro (And.intro (And.intro @Option.some.injEq.{0} @Option.getD_some.{0}) (And.intro @Option.getD_none.{0} @Option.isSome_some.{0})) (And.intro (And.intro @Option.isSome_none.{0} @List.getElem?_cons_zero.{0}) (And.intro @List.getElem?_cons_succ.{0} @List.getElem?_nil.{0})))) (And.intro (And.intro (And.intro (And.intro @List.getElem?_toArray.{0} @Bool.not_true) (And.intro @Bool.not_false @Bool.or_self)) (And.intro (And.intro @Bool.or_false @Bool.false_or) (And.intro @Bool.or_true @Bool.true_or))) (And.intro (And.intro (And.intro @Bool.false_eq_true @Bool.true_eq_false) (And.intro @Bool.true_and @Bool.and_true)) (And.intro (And.intro @Bool.false_and @Bool.and_false) (And.intro @Bool.and_self @BEq.rfl.{0}))))) (And.intro (And.intro (And.intro (And.intro (And.intro @beq_self_eq_true.{0} @decide_true) (And.intro @decide_false @Nat.beq_refl)) (And.intro (And.intro @length_cons.{0} @length_nil.{0}) (And.intro @List.take_zero.{0} @take_succ_cons.{0}))) (And.intro (And.intro (And.intro @take_nil.{0} @drop_zero.{0}) (And.intro @List.drop_succ_cons.{0} @drop_nil.{0})) (And.intro (And.intro @List.append_eq.{0} @List.nil_append.{0}) (And.intro @List.cons_append.{0} @List.append_nil.{0})))) (And.intro (And.intro (And.intro (And.intro @List.set_cons_zero.{0} @List.set_cons_succ.{0}) (And.intro @Nat.zero_add @Nat.add_zero)) (And.intro (And.intro @List.all_cons.{0} @List.all_nil.{0}) (And.intro @List.head?_cons.{0} @Nat.le_refl))) (And.intro (And.intro (And.intro @Int.natCast_nonneg @EI) (And.intro @iJ @MZ)) (And.intro (And.intro @EW @Ea) (And.intro @beq_iff_eq.{0} (And.intro @Bool.not_eq_true @ne_eq.{1})))))))) (And.intro (And.intro (And.intro (And.intro (And.intro (And.intro (And.intro @not_true_eq_false @not_false_eq_true) (And.intro @gt_iff_lt.{0} @Nat.lt_irrefl)) (And.intro (And.intro @FT.fill.eq_1 @FT.fill.eq_2) (And.intro @vG.eq_1 @vG.eq_2))) (And.intro (And.intro (And.intro @Ax.yielded.eq_1 @aP.eq_1) (And.intro @aP.eq_2 @aP.eq_3)) (And.intro (And.intro @aP.eq_4 @eK.eq_1) (And.intro @eK.eq_2 @kN.eq_1)))) (And.intro (And.intro (And.intro (And.intro @kN.eq_2 @oJ.eq_1) (And.intro @oJ.eq_2 @Ax.ofValue.eq_1)) (And.intro (And.intro @Ax.ofValue.eq_2 @bC.eq_1) (And.intro @bC.eq_2 @bC.eq_3))) (And.intro (And.intro (And.intro @bC.eq_4 @bC.eq_5) (And.intro @bC.eq_6 @bC.eq_7)) (And.intro (And.intro @bC.eq_8 @bC.eq_9) (And.intro @Ax.ofValues.eq_1 @Ax.ofValues.eq_2))))) (And.intro (And.intro (And.intro (And.intro (And.intro @eG.eq_1 @eG.eq_2) (And.intro @jF.eq_1 @qW.eq_1)) (And.intro (And.intro @FJ.eq_1 @pH.eq_1) (And.intro @eW.eq_1 @gO.eq_1))) (And.intro (And.intro (And.intro @jE.eq_1 @iO.eq_1) (And.intro @eI.eq_1 @mZ.eq_1)) (And.intro (And.intro @lG.eq_1 @dP.eq_1) (And.intro @iP.eq_1 @lF.eq_1)))) (And.intro (And.intro (And.intro (And.intro @jG.eq_1 @qV.eq_1) (And.intro @gJ.eq_1 @pG.eq_1)) (And.intro (And.intro @bT.eq_1 @pF.eq_1) (And.intro @dK.eq_1 @dH.eq_1))) (And.intro (And.intro (And.intro @cI.eq_1 @eA.eq_1) (And.intro @Ax.builtin.eq_1 @Ax.builtin.eq_2)) (And.intro (And.intro @Ax.builtin.eq_3 @Ax.builtin.eq_4) (And.intro @Ax.builtin.eq_5 (And.intro @Ax.builtin.eq_6 @Ax.builtin.eq_7))))))) (And.intro (And.intro (And.intro (And.intro (And.intro (And.intro @Ax.builtin.eq_8 @Ax.builtin.eq_9) (And.intro @Ax.builtin.eq_10 @Ax.builtin.eq_11)) (And.intro (And.intro @Ax.builtin.eq_12 @Ax.isAgg.eq_1) (And.intro @Ax.isAgg.eq_2 @Ax.isAgg.eq_3))) (And.intro (And.intro (And.intro @ED.eq_1 @ED.eq_2) (And.intro @ED.eq_3 @Ax.fieldAddr.eq_1)) (And.intro (And.intro @Ax.field.eq_1 @Ax.field.eq_2) (And.intro @Ax.part.eq_1 @Ax.bin.eq_1)))) (And.intro (And.intro (And.intro (And.intro @Ax.bin.eq_2 @Ax.bin.eq_3) (And.intro @Ax.bin.eq_4 @Ax.bin.eq_5)) (And.intro (And.intro @Ax.bin.eq_6 @Ax.bin.eq_7) (And.intro @sH.eq_1 @sH.eq_2))) (And.intro (And.intro (And.intro @sH.eq_3 @sH.eq_4) (And.intro @sH.eq_5 @sH.eq_6)) (And.intro (And.intro @sH.eq_7 @sH.eq_8) (And.intro @Ax.arith.eq_1 @Ax.arith.eq_2))))) (And.intro (And.intro (And.intro (And.intro (And.intro @Ax.arith.eq_3 @Ax.arith.eq_4) (And.intro @Ax.arith.eq_5 @Ax.arith.eq_6)) (And.intro (And.intro @Ax.arith.eq_7 @Ax.arith.eq_8) (And.intro @Ax.arith.eq_9 @Ax.arith.eq_10))) (And.intro (And.intro (And.intro @Ax.arith.eq_11 @Ax.arith.eq_12) (And.intro @Ax.arith.eq_13 @Ax.arith.eq_14)) (And.intro (And.intro @Ax.arith.eq_15 @Ax.arith.eq_16) (And.intro @Ax.unop.eq_1 @Ax.unop.eq_2)))) (And.intro (And.intro (And.intro (And.intro @Ax.unop.eq_3 @Ax.isConst.eq_1) (And.intro @Ax.isConst.eq_2 @Ax.V.aW.eq_1)) (And.intro (And.intro @Ax.V.aW.eq_2 @Ax.V.aW.eq_3) (And.intro @Ax.V.aW.eq_4 @Ax.V.cells.eq_1))) (And.intro (And.intro (And.intro @Ax.V.cells.eq_2 @Ax.setCells.eq_1) (And.intro @Ej.eq_1 @Ax.results.eq_1)) (And.intro (And.intro @Ax.results.eq_2 @Ax.results.eq_3) (And.intro @Ax.Fr.init.eq_1 (And.intro @Ax.Fr.fill.eq_1 @Ax.Fr.fill.eq_2)))))))))
end Go.Proofs.YtlbbdpkjeeiahaaGreatDoor
end
section
namespace Go.Ax
open Go
theorem kW {a0 a1 r:Prop} (h:a0 /\ a1) (k:r):a0 /\ a1 /\ r:=by simp only [h,k,and_self]
theorem iZ {a0 a1 a2 r:Prop} (h:a0 /\ a1 /\ a2) (k:r):a0 /\ a1 /\ a2 /\ r:=by simp only [h,k,and_self]
theorem gP {a0 a1 a2 a3 r:Prop} (h:a0 /\ a1 /\ a2 /\ a3) (k:r):a0 /\ a1 /\ a2 /\ a3 /\ r:=by simp only [h,k,and_self]
theorem lY {a0 a1 a2 a3 a4 r:Prop} (h:a0 /\ a1 /\ a2 /\ a3 /\ a4) (k:r):a0 /\ a1 /\ a2 /\ a3 /\ a4 /\ r:=by simp only [h,k,and_self]
theorem Cr {a0 a1 a2 a3 a4 a5 r:Prop} (h:a0 /\ a1 /\ a2 /\ a3 /\ a4 /\ a5) (k:r):a0 /\ a1 /\ a2 /\ a3 /\ a4 /\ a5 /\ r:=by simp only [h,k,and_self]
theorem uU {a0 a1 a2 a3 a4 a5 a6 r:Prop} (h:a0 /\ a1 /\ a2 /\ a3 /\ a4 /\ a5 /\ a6) (k:r):a0 /\ a1 /\ a2 /\ a3 /\ a4 /\ a5 /\ a6 /\ r:=by simp only [h,k,and_self]
theorem QX {a0 a1 a2 a3 a4 a5 a6 a7 r:Prop} (h:a0 /\ a1 /\ a2 /\ a3 /\ a4 /\ a5 /\ a6 /\ a7) (k:r):a0 /\ a1 /\ a2 /\ a3 /\ a4 /\ a5 /\ a6 /\ a7 /\ r:=by simp only [h,k,and_self]
theorem Ap {a0 a1 a2 a3 a4 a5 a6 a7 a8 r:Prop} (h:a0 /\ a1 /\ a2 /\ a3 /\ a4 /\ a5 /\ a6 /\ a7 /\ a8) (k:r):a0 /\ a1 /\ a2 /\ a3 /\ a4 /\ a5 /\ a6 /\ a7 /\ a8 /\ r:=by simp only [h,k,and_self]
theorem zH {a0 a1 a2 a3 a4 a5 a6 a7 a8 a9 r:Prop} (h:a0 /\ a1 /\ a2 /\ a3 /\ a4 /\ a5 /\ a6 /\ a7 /\ a8 /\ a9) (k:r):a0 /\ a1 /\ a2 /\ a3 /\ a4 /\ a5 /\ a6 /\ a7 /\ a8 /\ a9 /\ r:=by simp only [h,k,and_self]
theorem H7 {a0 a1 a2 a3 a4 a5 a6 a7 a8 a9 a10 S5 a12 r:Prop} (h:a0 /\ a1 /\ a2 /\ a3 /\ a4 /\ a5 /\ a6 /\ a7 /\ a8 /\ a9 /\ a10 /\ S5 /\ a12) (k:r):a0 /\ a1 /\ a2 /\ a3 /\ a4 /\ a5 /\ a6 /\ a7 /\ a8 /\ a9 /\ a10 /\ S5 /\ a12 /\ r:=by simp only [h,k,and_self]
theorem H6 {a0 a1 a2 a3 a4 a5 a6 a7 a8 a9 a10 S5 a12 a13 a14 a15 r:Prop} (h:a0 /\ a1 /\ a2 /\ a3 /\ a4 /\ a5 /\ a6 /\ a7 /\ a8 /\ a9 /\ a10 /\ S5 /\ a12 /\ a13 /\ a14 /\ a15) (k:r):a0 /\ a1 /\ a2 /\ a3 /\ a4 /\ a5 /\ a6 /\ a7 /\ a8 /\ a9 /\ a10 /\ S5 /\ a12 /\ a13 /\ a14 /\ a15 /\ r:=by simp only [h,k,and_self]
inductive eN {α β:Type} (P:α -> β -> Prop):List α -> List β -> Prop
 | nil:eN P [] []
 | cons {a b l m}:P a b -> eN P l m -> eN P (a :: l) (b :: m)
namespace eN
variable {α β:Type} {P Q:α -> β -> Prop} {l l':List α} {m m':List β}
theorem len (h:eN P l m):l.length = m.length:=by
 induction h with
 | nil=>rfl
 | cons _ _ ih=>simp [ih]
theorem append (h:eN P l m) (k:eN P l' m'):eN P (l ++ l') (m ++ m'):=by
 induction h with
 | nil=>exact k
 | cons p _ ih=>exact .cons p ih
theorem take (h:eN P l m):∀ n,eN P (l.take n) (m.take n):=by
 induction h with
 | nil=>intro n; rw [take_nil,take_nil]; exact .nil
 | cons p _ ih=>
  intro n
  cases n with
  | zero=>exact .nil
  | succ n=>exact .cons p (ih n)
theorem drop (h:eN P l m):∀ n,eN P (l.drop n) (m.drop n):=by
 induction h with
 | nil=>intro n; rw [drop_nil,drop_nil]; exact .nil
 | cons p q ih=>
  intro n
  cases n with
  | zero=>exact .cons p q
  | succ n=>exact ih n
theorem get (h:eN P l m):∀ (i:Nat) (x:β),m[i]? = some x -> ∃ r,l[i]? = some r /\ P r x:=by
 induction h with
 | nil=>intro i x e; cases e
 | cons p _ ih=>
  intro i x e
  cases i with
  | zero=>cases e; exact ⟨_,rfl,p⟩
  | succ i=>exact ih i x e
theorem mem (h:eN P l m) {r:α} (hr:r ∈ l):∃ x ∈ m,P r x:=by
 induction h with
 | nil=>cases hr
 | cons p _ ih=>
  rcases mem_cons.1 hr with rfl | hr
  ·exact ⟨_,mem_cons_self ..,p⟩
  ·obtain ⟨x,h1,h2⟩:=ih hr; exact ⟨x,mem_cons_of_mem _ h1,h2⟩
theorem imp (h:eN P l m) (k:∀ a b,P a b -> Q a b):eN Q l m:=by
 induction h with
 | nil=>exact .nil
 | cons p _ ih=>exact .cons (k _ _ p) ih
theorem one {a:α} {b:β} (p:P a b):eN P [a] [b]:=.cons p .nil
theorem map {γ:Type} {f:γ -> α} {g:γ -> β} (k:∀ c,P (f c) (g c)):∀ l:List γ,eN P (l.map f) (l.map g)
 | []=>.nil
 | c :: l=>.cons (k c) (map k l)
end eN
def bB:V -> Bool
 | .bQ .. | .dB .. | .imp .. | .bool _ | .int .. | .str _ | .gZ | .aC | .bS | .pX | .pW=>true
 | _=>false
theorem aI {c:V} (h:bB c = true):c.aW = true:=by cases c <;> first | rfl | cases h
theorem jN {Z:Sg} {ty:Nat -> Option Ty} {g:Bool} {n:Nat} {c:V} (h:bB c = true):bN Z ty g (n + 1) c = some c:=by
 cases c <;> first | rfl | cases h
theorem eZ {Z:Sg} {ty:Nat -> Option Ty} {g:Bool} {c:V} (h:bB c = true) (ht:cH g c = true):aZ Z ty g c = some c:=by
 have e:aZ.one Z ty g c = some c:=by
  unfold aZ.one
  rw [show c_ = 11 + 1 from rfl,jN h]
  simp only [ht,if_true]
 cases c <;> first | exact e | cases h
theorem C9 {Z:Sg} {ty:Nat -> Option Ty} {g:Bool} {c:V} (h:bB c = true) (ht:cH g c = true):cT Z ty g c = some c:=by
 have:=eZ (Z:=Z) (ty:=ty) h ht
 cases c <;> first | exact this | cases h
theorem dG {c:V} (h:bB c = true):cH true c = true:=by cases c <;> first | rfl | cases h
theorem iQ {α:Type} {f:α -> Option α}:∀ {l:List α},(∀ x ∈ l,f x = some x) -> aX f l = some l
 | [],_=>rfl
 | x :: l,h=>by rw [aX,h x (mem_cons_self ..),iQ fun y hy=>h y (mem_cons_of_mem _ hy)]
theorem Fl {Z:Sg} {ty:Nat -> Option Ty} {g:Bool} {b n t:Nat} {cs:List V} {ex:Bool} {i:Ty} (hb:Z[b]? = some (.cells t cs ex)) (hty:ty t = some i) (hlen:n * i.size <= cs.length)
  (hi:∀ c ∈ cs.take (n * i.size),bB c = true /\ cH g c = true):∃ full,aZ Z ty g (.sl b 0 n none) = some (.bQ g (rows i.size n (cs.take (n * i.size))) full):=by
 have hm:aX (fun v=>match bN Z ty g 11 v with
   | some v=>if cH g v then some v else no "snap: borrowed"
   | none=>none) ((cs.drop 0).take (n * i.size)) = some (cs.take (n * i.size)):=by
  rw [drop_zero]
  refine iQ fun x hx=>?_
  rw [show 11 = 10 + 1 from rfl,jN (hi x hx).1]
  simp only [(hi x hx).2,if_true]
 refine ⟨ex && decide (0 < i.size) && (0 + n * i.size == cs.length),?_⟩
 show (match bN Z ty g 12 (.sl b 0 n none) with
  | some v=>if cH g v then some v else no "snap: borrowed"
  | none=>none) = _
 have e:bN Z ty g 12 (.sl b 0 n none) = some (.bQ g (rows i.size n (cs.take (n * i.size))) (ex && decide (0 < i.size) && (0 + n * i.size == cs.length))):=by
  rw [bN]
  simp only [hb,hty]
  rw [if_pos (by omega)]
  exact congrArg (fun o=>match o with
   | some l=>some (V.bQ g (rows i.size n l) (ex && decide (0 < i.size) && (0 + n * i.size == cs.length)))
   | none=>none) hm
 rw [e]
 show (if (g || !g) = true then _ else _) = _
 rw [if_pos (by cases g <;> rfl)]
theorem jP {sz:Nat}:∀ (rs:List (List V)),(∀ r ∈ rs,r.length = sz) -> rows sz rs.length rs.flatten = rs
 | [],_=>rfl
 | r :: rs,h=>by
  have hr:=h r (mem_cons_self ..)
  rw [length_cons,rows,flatten_cons,List.take_append_of_le_length (by omega),take_of_length_le (by omega),List.drop_append_of_le_length (by omega),drop_of_length_le (by omega),List.nil_append,jP rs fun x hx=>h x (mem_cons_of_mem _ hx)]
theorem mQ {sz:Nat}:∀ (rs:List (List V)),(∀ r ∈ rs,r.length = sz) -> rs.flatten.length = rs.length * sz
 | [],_=>by simp
 | r :: rs,h=>by
  rw [flatten_cons,length_append,h r (mem_cons_self ..),mQ rs fun x hx=>h x (mem_cons_of_mem _ hx),length_cons,Nat.succ_mul,Nat.add_comm]
theorem Ca {sz:Nat}:∀ (rs:List (List V)),(∀ r ∈ rs,r.length = sz) -> ∀ (i:Nat) (r:List V),rs[i]? = some r -> (rs.flatten.drop (i * sz)).take sz = r
 | [],_,i,r,e=>by cases e
 | x :: rs,h,0,r,e=>by
  cases e
  have hr:=h x (mem_cons_self ..)
  rw [Nat.zero_mul,drop_zero,flatten_cons,List.take_append_of_le_length (by omega),take_of_length_le (by omega)]
 | x :: rs,h,i + 1,r,e=>by
  have hr:=h x (mem_cons_self ..)
  rw [flatten_cons,List.drop_append,drop_of_length_le (by rw [Nat.succ_mul]; omega),List.nil_append,show (i + 1) * sz - x.length = i * sz by rw [Nat.succ_mul]; omega]
  exact Ca rs (fun y hy=>h y (mem_cons_of_mem _ hy)) i r e
structure Lay (α:Type) where
 P:List V -> α -> Prop
 n:Nat
 len:∀ r x,P r x -> r.length = n
 im:∀ r x,P r x -> ∀ c ∈ r,bB c = true
def IS {α:Type} (L:Lay α) (v:V) (l:List α):Prop:=(v = .aC /\ l = []) \/ ∃ g rs full,v = .bQ g rs full /\ eN L.P rs l
def jW {α:Type} (L:Lay α) (v:V) (l:List α):Prop:=(v = .aC /\ l = []) \/ ∃ rs full,v = .bQ false rs full /\ eN L.P rs l
def LS {α:Type} (L:Lay α) (t:Nat) (Z:Sg) (v:V) (l:List α):Prop:=IS L v l \/ ∃ b cs ex rs,v = .sl b 0 l.length none /\ Z[b]? = some (.cells t cs ex) /\ eN L.P rs l /\ cs.take (l.length * L.n) = rs.flatten
def OS {α:Type} (L:Lay α) (t:Nat) (lo:Nat) (Z:Sg) (v:V) (l:List α):Prop:=(v = .aC /\ l = []) \/ ∃ b rs,lo <= b /\ v = .sl b 0 l.length none /\ Z[b]? = some (.cells t rs.flatten false) /\ eN L.P rs l
section
variable {α:Type} {L:Lay α} {E:Env} {Z:Sg} {v:V} {l:List α} {t:Nat}
theorem jW.is (h:jW L v l):IS L v l:=h.imp id fun ⟨rs,full,e,a⟩=>⟨false,rs,full,e,a⟩
theorem IS.ls (h:IS L v l) (Z:Sg) (t:Nat):LS L t Z v l:=.inl h
theorem IS.bB (h:IS L v l):bB v = true:=by rcases h with ⟨rfl,-⟩ | ⟨_,_,_,rfl,-⟩ <;> rfl
theorem jW.tag (h:jW L v l):cH false v = true:=by rcases h with ⟨rfl,-⟩ | ⟨_,_,rfl,-⟩ <;> rfl
theorem Lay.lens {rs:List (List V)} (h:eN L.P rs l):∀ r ∈ rs,r.length = L.n:=fun r hr=>by
 obtain ⟨x,-,hx⟩:=h.mem hr
 exact L.len r x hx
theorem Lay.flat {rs:List (List V)} (h:eN L.P rs l):rs.flatten.length = l.length * L.n:=by rw [mQ rs (Lay.lens h),h.len]
theorem OS.ls {lo:Nat} (h:OS L t lo Z v l):LS L t Z v l:=by
 rcases h with h | ⟨b,rs,-,e,hb,ha⟩
 ·exact .inl (.inl h)
 ·exact .inr ⟨b,_,_,rs,e,hb,ha,take_of_length_le (by rw [Lay.flat ha]; exact Nat.le_refl _)⟩
theorem LS.keep {Y:Sg} (h:LS L t Z v l) (k:∀ (b t:Nat) (cs:List V) (ex:Bool),Z[b]? = some (.cells t cs ex) -> Y[b]? = some (.cells t cs ex)):LS L t Y v l:=
 h.imp id fun ⟨b,cs,ex,rs,e,hb,r⟩=>⟨b,cs,ex,rs,e,k _ _ _ _ hb,r⟩
theorem OS.keep {Y:Sg} {lo:Nat} (h:OS L t lo Z v l) (k:∀ (b t:Nat) (cs:List V) (ex:Bool),lo <= b -> Z[b]? = some (.cells t cs ex) -> Y[b]? = some (.cells t cs ex)):OS L t lo Y v l:=
 h.imp id fun ⟨b,rs,hl,e,hb,r⟩=>⟨b,rs,hl,e,k _ _ _ _ hl hb,r⟩
theorem pI {ts e:Nat} {si:Ty} (hts:E.ty ts = some si) (hk:si.kd = .sl e) (h:LS L t Z v l):lenOf E Z ts v = some l.length:=by
 unfold lenOf
 rw [hts]
 simp only [hk]
 rcases h with (⟨rfl,rfl⟩ | ⟨g,rs,full,rfl,ha⟩) | ⟨b,cs,ex,rs,rfl,-⟩
 ·rfl
 ·show some rs.length = _; rw [ha.len]
 ·rfl
theorem DQ {ts:Nat} {si ei:Ty} (hts:E.ty ts = some si) (hk:si.kd = .sl t) (ht:E.ty t = some ei) (hn:ei.size = L.n) (h:LS L t Z v l) {i:Nat} {x:α} (hx:l[i]? = some x) :
  ∃ p r,indexAddr E ts v (.int .i64 (i:Int)) = some p /\ L.P r x /\ (isAgg ei.kd = true -> loadAt E Z t p = some (.agg r)) /\ (isAgg ei.kd = false -> 0 < L.n -> loadAt E Z t p = r.head?) /\
   ((∃ g,p = .dB g r) \/ ∃ b o,p = .ref b o /\ ∃ u cs ex,Z[b]? = some (.cells u cs ex) /\ o + L.n <= cs.length /\ (cs.drop o).take L.n = r):=by
 have hneg:¬ ((i:Int) < 0):=by omega
 obtain ⟨kd,size,bytes,zero⟩:=si
 replace hk:kd = .sl t:=hk
 subst hk
 rcases h with (⟨rfl,rfl⟩ | ⟨g,rs,full,rfl,ha⟩) | ⟨b,cs,ex,rs,rfl,hb,ha,hc⟩
 ·cases hx
 ·obtain ⟨r,hr,hp⟩:=ha.get i x hx
  have hl:=L.len r x hp
  refine ⟨.dB g r,r,?_,hp,fun hg=>?_,fun hg hn0=>?_,.inl ⟨g,rfl⟩⟩
  ·unfold indexAddr
   simp only [hneg,if_false,hts,ht,Int.toNat_natCast,hr]
   rw [if_pos (by rw [hl,hn]; exact BEq.rfl)]
  ·unfold loadAt
   simp only [ht,hg,if_true]
   rw [if_pos (by omega),take_of_length_le (by omega)]
  ·unfold loadAt
   simp only [ht,hg,Bool.false_eq_true,if_false]
 ·obtain ⟨r,hr,hp⟩:=ha.get i x hx
  have hi:=(List.getElem?_eq_some_iff.1 hx).1
  have hl:=L.len r x hp
  have hfl:=Lay.flat ha
  have hlen:l.length * L.n <= cs.length:=by
   have:=congrArg List.length hc
   rw [length_take,hfl] at this
   omega
  have him:(i + 1) * L.n <= l.length * L.n:=Nat.mul_le_mul_right _ hi
  rw [Nat.succ_mul] at him
  have ho:i * L.n + L.n <= cs.length:=by omega
  have hd:(cs.drop (i * L.n)).take L.n = r:=by
   have:=Ca rs (Lay.lens ha) i r hr
   rw [<- hc,List.drop_take,List.take_take,Nat.min_eq_left (by omega)] at this
   exact this
  refine ⟨.ref b (i * L.n),r,?_,hp,fun hg=>?_,fun hg hn0=>?_,.inr ⟨b,_,rfl,_,_,_,hb,ho,hd⟩⟩
  ·unfold indexAddr
   simp only [hneg,if_false,hts,ht,Int.toNat_natCast]
   rw [if_pos hi,hn,Nat.zero_add]
  ·unfold loadAt
   simp only [ht,hb,hg,if_true]
   rw [hn,if_pos ho,hd]
  ·unfold loadAt
   simp only [ht,hb,hg,Bool.false_eq_true,if_false]
   rw [<- hd,List.head?_take,if_neg (by omega),List.head?_drop]
theorem Ed {ei:Ty} (ht:E.ty t = some ei) (hn:ei.size = L.n) (h:LS L t Z v l):∃ v',aZ Z E.ty true v = some v' /\ IS L v' l:=by
 rcases h with h | ⟨b,cs,ex,rs,rfl,hb,ha,hc⟩
 ·exact ⟨v,eZ h.bB (dG h.bB),h⟩
 ·have hlen:l.length * L.n <= cs.length:=by
   have:=congrArg List.length hc
   rw [length_take,Lay.flat ha] at this
   omega
  obtain ⟨full,e⟩:=Fl (g:=true) (n:=l.length) hb ht (by rw [hn]; exact hlen) (fun c hcm=>by
   rw [hn,hc] at hcm
   obtain ⟨r,hr,hcr⟩:=List.mem_flatten.1 hcm
   obtain ⟨x,-,hp⟩:=ha.mem hr
   have:=L.im r x hp c hcr
   exact ⟨this,dG this⟩)
  refine ⟨_,e,.inr ⟨true,rs,full,?_,ha⟩⟩
  rw [hn,hc,<- ha.len,jP rs (Lay.lens ha)]
end
theorem aQ {E:Env} {c:Code} {s:List kY} {w:Nat} {Q:X -> Fr -> Sg -> Prop} (I:Nat -> FT -> Sg -> Prop) (n:Nat)
  (step:∀ i F Z,i < n -> I i F Z -> (∀ F' σ',I (i + 1) F' σ' -> R E (.loop c) s ⟨w,F'⟩ σ' Q) -> R E (.loop c) s ⟨w,F⟩ Z Q)
  (fin:∀ F Z,I n F Z -> R E (.loop c) s ⟨w,F⟩ Z Q):∀ (k i:Nat) (F:FT) (Z:Sg),i + k = n -> I i F Z -> R E (.loop c) s ⟨w,F⟩ Z Q:=by
 intro k
 induction k with
 | zero=>intro i F Z e h; rw [Nat.add_zero] at e; subst e; exact fin F Z h
 | succ k ih=>intro i F Z e h; exact step i F Z (by omega) h fun F' σ' h'=>ih (i + 1) F' σ' (by omega) h'
end Go.Ax
end
section
namespace Go.Ax
open Go
section
def bH {α:Type} (L:Lay α) (t:Nat) (Z:Sg) (v:V) (l:List α):Prop:=(v = .aC /\ l = []) \/ ∃ b rs ex,v = .sl b 0 l.length none /\ Z[b]? = some (.cells t rs.flatten ex) /\ eN L.P rs l
def aT:V -> Option Nat
 | .sl b _ _ _=>some b
 | _=>none
def Sp (Z σ':Sg) (w:V):Prop:=∀ (c:Nat) (o:O),Z[c]? = some o -> aT w ≠ some c -> σ'[c]? = some o
section
variable {α:Type} {L:Lay α} {E:Env} {Z:Sg} {w x:V} {l m:List α} {t ts:Nat} {si ei:Ty} {ats:Array Nat}
theorem bH.ls (h:bH L t Z w l):LS L t Z w l:=by
 rcases h with h | ⟨b,rs,ex,e,hb,ha⟩
 ·exact .inl (.inl h)
 ·exact .inr ⟨b,_,_,rs,e,hb,ha,take_of_length_le (by rw [Lay.flat ha]; exact Nat.le_refl _)⟩
theorem bH.keep {σ':Sg} (h:bH L t Z w l) (k:∀ c o,aT w = some c -> Z[c]? = some o -> σ'[c]? = some o):bH L t σ' w l:=by
 rcases h with h | ⟨b,rs,ex,rfl,hb,ha⟩
 ·exact .inl h
 ·exact .inr ⟨b,rs,ex,rfl,k b _ rfl hb,ha⟩
theorem bH.app (h:bH L t Z w l) (Y:Sg):bH L t (Z ++ Y) w l:=h.keep fun c o _ e=>by
 rw [getElem?_append_left (List.getElem?_eq_some_iff.1 e).1]; exact e
theorem Sp.refl (Z:Sg) (w:V):Sp Z Z w:=fun _ _ h _=>h
theorem dX {a b c:Nat} (h:roomy b c = true) (hab:a <= b):roomy a c = true:=by
 unfold roomy at h ⊢
 rw [decide_eq_true_eq] at h ⊢
 generalize 281474976710656 = B at h ⊢
 have h2:(2 * a + 256) * (c + 1) <= (2 * b + 256) * (c + 1):=Nat.mul_le_mul_right _ (Nat.add_le_add_right (Nat.mul_le_mul_left 2 hab) 256)
 exact Nat.le_trans h2 h
theorem yI {a b c:Nat} (h:roomy b c = true) (hab:a <= b):nV a c = true:=by
 unfold roomy at h
 unfold nV
 rw [decide_eq_true_eq] at h ⊢
 generalize 281474976710656 = B at h ⊢
 have h2:a * (c + 1) <= (2 * b + 256) * (c + 1):=Nat.mul_le_mul_right _ (by omega)
 exact Nat.le_trans h2 h
theorem i_ (hts:E.ty ts = some si) (hk:si.kd = .sl t) (ht:E.ty t = some ei) (hn:ei.size = L.n) (hn0:0 < L.n) (hpl:gY E ats = true) (hats:ats[0]? = some ts) (h:bH L t Z w l) {new:List (List V)}
  (hx:elems Z ei.size x = some (new.flatten,m.length)) (hm:eN L.P new m) (hr:roomy (l.length + m.length) ei.bytes = true) :
  ∃ w' σ',append E Z ats w x = some (w',σ') /\ bH L t σ' w' (l ++ m) /\ Sp Z σ' w /\ Z.length <= σ'.length /\ ∀ b,aT w' = some b -> aT w = some b \/ Z.length <= b:=by
 obtain ⟨kd,size,bytes,zero⟩:=si
 replace hk:kd = .sl t:=hk
 subst hk
 have hfm:=Lay.flat hm
 have hne:(ei.size == 0) = false:=by rw [hn]; simp; omega
 have hr2:nV m.length ei.bytes = true:=yI hr (by omega)
 unfold append
 simp only [hats,hts,ht,hpl,hne,hx,Bool.not_true,Bool.or_self,Bool.false_eq_true,if_false]
 rcases h with ⟨rfl,rfl⟩ | ⟨b,rs,ex,rfl,hbk,ha⟩
 ·by_cases h0:m.length = 0
  ·simp only [h0,if_true]
   obtain rfl:=length_eq_zero_iff.1 h0
   exact ⟨_,_,rfl,.inl ⟨rfl,rfl⟩,Sp.refl _ _,Nat.le_refl _,fun b e=>by cases e⟩
  ·simp only [h0,if_false,hr2,if_true]
   refine ⟨_,_,rfl,.inr ⟨Z.length,new,false,by rw [List.nil_append],by simp,by rw [List.nil_append]; exact hm⟩,fun c o e _=>?_,by simp,fun b e=>by cases e; exact .inr (Nat.le_refl _)⟩
   rw [getElem?_append_left (List.getElem?_eq_some_iff.1 e).1]; exact e
 ·have hfa:=Lay.flat ha
  have hlt:=(List.getElem?_eq_some_iff.1 hbk).1
  have hform:(t == t && decide (l.length * ei.size <= rs.flatten.length) && roomy (l.length + m.length) ei.bytes) = true:=by
   rw [hr,hfa,hn]; simp
  simp only [hbk,Nat.zero_add,hform,Bool.not_true,Bool.false_eq_true,if_false]
  by_cases h0:m.length = 0
  ·obtain rfl:=length_eq_zero_iff.1 h0
   have hnew:new = []:=by
    have:=hm.len
    exact length_eq_zero_iff.1 (by simpa using this)
   subst hnew
   rw [if_pos (by rw [hfa,hn]; simp)]
   refine ⟨_,_,rfl,.inr ⟨b,rs,ex,by simp,?_,by simpa using ha⟩,fun c o e hne=>?_,by simp,fun b e=>.inl e⟩
   ·rw [List.getElem?_set_self hlt]
    unfold setCells
    rw [hn,take_of_length_le (by rw [hfa]; exact Nat.le_refl _),drop_of_length_le (by rw [hfa]; simp)]
    simp
   ·rw [List.getElem?_set_ne (fun e2=>hne (by rw [e2]; rfl))]; exact e
  ·have hbig:¬ (l.length + m.length) * ei.size <= rs.flatten.length:=by
    rw [hfa,hn,Nat.add_mul]
    have:0 < m.length * L.n:=Nat.mul_pos (Nat.pos_of_ne_zero h0) hn0
    omega
   have htk:rs.flatten.take (l.length * ei.size) = rs.flatten:=take_of_length_le (by rw [hfa,hn]; exact Nat.le_refl _)
   have hfl:rs.flatten ++ new.flatten = (rs ++ new).flatten:=by simp
   simp only [hbig,if_false,if_true,htk,drop_zero,hfl]
   cases ex with
   | true=>
    refine ⟨_,_,rfl,.inr ⟨Z.length,rs ++ new,false,by simp,by simp,ha.append hm⟩,fun c o e _=>?_,by simp,fun b e=>by cases e; exact .inr (Nat.le_refl _)⟩
    rw [getElem?_append_left (List.getElem?_eq_some_iff.1 e).1]; exact e
   | false=>
    refine ⟨_,_,rfl,.inr ⟨Z.length,rs ++ new,false,by simp,by simp,ha.append hm⟩,fun c o e hne=>?_,by simp,fun b e=>by cases e; exact .inr (Nat.le_refl _)⟩
    have hc:=(List.getElem?_eq_some_iff.1 e).1
    rw [getElem?_append_left (by simpa using hc),List.getElem?_set_ne (fun e2=>hne (by rw [e2]; rfl))]; exact e
theorem N5 (hts:E.ty ts = some si) (hk:si.kd = .sl t) (ht:E.ty t = some ei) (hn:ei.size = L.n) (hn0:0 < L.n) (hpl:gY E ats = true) (hats:ats[0]? = some ts) {new:List (List V)}
  (hx:elems Z ei.size x = some (new.flatten,m.length)) (hm:eN L.P new m) (hr:nV m.length ei.bytes = true) :
  ∃ w' σ',append E Z ats .aC x = some (w',σ') /\ bH L t σ' w' m:=by
 obtain ⟨kd,size,bytes,zero⟩:=si
 replace hk:kd = .sl t:=hk
 subst hk
 have hne:(ei.size == 0) = false:=by rw [hn]; simp; omega
 unfold append
 simp only [hats,hts,ht,hpl,hne,hx,Bool.not_true,Bool.or_self,Bool.false_eq_true,if_false]
 by_cases h0:m.length = 0
 ·simp only [h0,if_true]
  obtain rfl:=length_eq_zero_iff.1 h0
  exact ⟨_,_,rfl,.inl ⟨rfl,rfl⟩⟩
 ·simp only [h0,if_false,hr,if_true]
  exact ⟨_,_,rfl,.inr ⟨Z.length,new,false,rfl,by simp,hm⟩⟩
theorem jT {r:List V} {ex:Bool} {Y:Sg} {n:Nat} (hr:r.length = n):elems (Y ++ [.cells t r ex]) n (.sl Y.length 0 1 none) = some ([r].flatten,1):=by
 unfold elems
 simp [take_of_length_le (Nat.le_of_eq hr),hr]
theorem C4 {rs:List (List V)} (h:eN L.P rs l):D_ L.n rs = true:=by
 cases h with
 | nil=>rfl
 | cons p _=>show (_ == _) = true; rw [L.len _ _ p]; exact BEq.rfl
theorem qD (ia:IS L x l) (Z:Sg):∃ rs,elems Z L.n x = some (rs.flatten,l.length) /\ eN L.P rs l:=by
 rcases ia with ⟨rfl,rfl⟩ | ⟨g,rs,full,rfl,ha⟩
 ·exact ⟨[],rfl,.nil⟩
 ·exact ⟨rs,by unfold elems; simp only []; rw [if_pos (C4 ha),ha.len],ha⟩
theorem Np (ia:LS L t Z x l):∃ rs,elems Z L.n x = some (rs.flatten,l.length) /\ eN L.P rs l:=by
 rcases ia with ia | ⟨b,cs,ex,rs,rfl,hb,ha,hc⟩
 ·exact qD ia Z
 ·refine ⟨rs,?_,ha⟩
  have:l.length * L.n <= cs.length:=by
   have:=congrArg List.length hc
   rw [length_take,Lay.flat ha] at this
   omega
  unfold elems
  simp only [hb,Nat.zero_add,drop_zero]
  rw [if_pos this,hc]
theorem eN.set {β γ:Type} {P:β -> γ -> Prop} {a:List β} {b:List γ} (h:eN P a b) {r:β} {y:γ} (hr:P r y):∀ i,eN P (a.set i r) (b.set i y):=by
 induction h with
 | nil=>intro i; cases i <;> exact .nil
 | cons p q ih=>
  intro i
  cases i with
  | zero=>exact .cons hr q
  | succ i=>exact .cons p (ih i)
theorem Br {sz:Nat}:∀ (rs:List (List V)) (i:Nat) (r:List V),(∀ x ∈ rs,x.length = sz) -> r.length = sz -> i < rs.length -> setCells rs.flatten (i * sz) r = (rs.set i r).flatten
 | [],i,r,_,_,h=>by simp at h
 | y :: rs,0,r,hl,hr,_=>by
  have hy:=hl y (mem_cons_self ..)
  unfold setCells
  rw [Nat.zero_mul,List.take_zero,List.nil_append,Nat.zero_add,List.set_cons_zero,flatten_cons,flatten_cons,hr,<- hy,List.drop_left]
 | y :: rs,i + 1,r,hl,hr,h=>by
  have hy:=hl y (mem_cons_self ..)
  have ih:=Br rs i r (fun x hx=>hl x (mem_cons_of_mem _ hx)) hr (by simpa using h)
  unfold setCells at ih ⊢
  rw [List.set_cons_succ,flatten_cons,flatten_cons,<- ih,Nat.succ_mul,List.take_append,List.drop_append,take_of_length_le (by omega),drop_of_length_le (by omega),List.nil_append,show i * sz + sz - y.length = i * sz by omega,show i * sz + sz + r.length - y.length = i * sz + r.length by omega,append_assoc,append_assoc,append_assoc]
theorem J0 (hts:E.ty ts = some si) (hk:si.kd = .sl t) (ht:E.ty t = some ei) (hn:ei.size = L.n) (h:bH L t Z w l) {i:Nat} (hi:i < l.length) {u:V} {y:α} (hu:L.P u.cells y) (hok:u.cells.all V.aW = true) :
  ∃ b,indexAddr E ts w (.int .i64 (i:Int)) = some (.ref b (i * L.n)) /\ aT w = some b /\ ∃ σ',storeAt E Z t (.ref b (i * L.n)) u = some σ' /\ bH L t σ' w (l.set i y) /\ Sp Z σ' w /\ σ'.length = Z.length:=by
 obtain ⟨kd,size,bytes,zero⟩:=si
 replace hk:kd = .sl t:=hk
 subst hk
 have hneg:¬ ((i:Int) < 0):=by omega
 rcases h with ⟨rfl,rfl⟩ | ⟨b,rs,ex,rfl,hbk,ha⟩
 ·simp at hi
 ·have hlt:=(List.getElem?_eq_some_iff.1 hbk).1
  have hfa:=Lay.flat ha
  have hul:=L.len _ _ hu
  have him:(i + 1) * L.n <= l.length * L.n:=Nat.mul_le_mul_right _ hi
  rw [Nat.succ_mul] at him
  have hrl:i < rs.length:=by rw [ha.len]; exact hi
  refine ⟨b,?_,rfl,_,?_,.inr ⟨b,rs.set i u.cells,ex,by rw [List.length_set],List.getElem?_set_self hlt,ha.set hu i⟩,fun c o e hne=>?_,by simp⟩
  ·unfold indexAddr
   simp only [hneg,if_false,hts,ht,Int.toNat_natCast,hi,if_true,hn,Nat.zero_add]
  ·unfold storeAt
   simp only [ht,hbk]
   rw [if_pos (by simp only [hul,hn,hok,Bool.and_true,BEq.rfl,Bool.true_and,decide_eq_true_eq]; rw [hfa]; omega),Br rs i u.cells (Lay.lens ha) hul hrl]
  ·rw [List.getElem?_set_ne (fun e2=>hne (by rw [e2]; rfl))]; exact e
theorem pO (ht:E.ty t = some ei) (hn:ei.size = L.n) (hF:∀ r x,L.P r x -> ∀ c ∈ r,cH false c = true) (h:bH L t Z w l):∃ v',cT Z E.ty false w = some v' /\ jW L v' l:=by
 rcases h with ⟨rfl,rfl⟩ | ⟨b,rs,ex,rfl,hb,ha⟩
 ·exact ⟨.aC,rfl,.inl ⟨rfl,rfl⟩⟩
 ·have hfl:=Lay.flat ha
  have htk:rs.flatten.take (l.length * L.n) = rs.flatten:=take_of_length_le (by omega)
  obtain ⟨full,e⟩:=Fl (g:=false) (n:=l.length) hb ht (by rw [hn]; omega) (fun c hcm=>by
   rw [hn,htk] at hcm
   obtain ⟨r,hr,hcr⟩:=List.mem_flatten.1 hcm
   obtain ⟨x,-,hp⟩:=ha.mem hr
   exact ⟨L.im r x hp c hcr,hF r x hp c hcr⟩)
  refine ⟨_,e,.inr ⟨rs,full,?_,ha⟩⟩
  rw [hn,htk,<- ha.len,jP rs (Lay.lens ha)]
theorem Bq {lo hi:Option V} {a b:Nat} (hts:E.ty ts = some si) (hk:si.kd = .sl t) (ht:E.ty t = some ei) (hn:ei.size = L.n) (ia:IS L w l) (hb:hi = none /\ b = l.length \/ hi = some (.int .i64 (b:Int))) (ha:lo = none /\ a = 0 \/ lo = some (.int .i64 (a:Int))) (hab:a <= b) (hbl:b <= l.length) :
  ∃ w',(∀ Z,slice E Z ts w lo hi none = some w') /\ IS L w' ((l.take b).drop a) /\ (jW L w l -> jW L w' ((l.take b).drop a)):=by
 obtain ⟨kd,size,bytes,zero⟩:=si
 replace hk:kd = .sl t:=hk
 subst hk
 have bd:∀ (n d:Nat) (o:Option V) (c:Nat),(o = none /\ c = d \/ o = some (.int .i64 (c:Int))) -> c <= n -> bound n o d = some c:=by
  intro n d o c h hc
  rcases h with ⟨rfl,rfl⟩ | rfl
  ·rfl
  ·unfold bound
   simp only []
   rw [if_pos]
   ·rfl
   ·simp only [Bool.and_eq_true,decide_eq_true_eq]; omega
 rcases ia with ⟨rfl,rfl⟩ | ⟨g,rs,full,rfl,hal⟩
 ·have hb0:b = 0:=by simpa using hbl
  subst hb0
  obtain rfl:a = 0:=by omega
  refine ⟨.aC,fun Z=>?_,.inl ⟨rfl,by simp⟩,fun _=>.inl ⟨rfl,by simp⟩⟩
  unfold slice
  simp only [hts,ht,Option.isSome_none,Bool.false_and]
  rw [show bound 0 none 0 = some 0 from rfl]
  simp only []
  rw [bd 0 0 hi 0 (by rcases hb with ⟨e,_⟩ | e; exact .inl ⟨e,rfl⟩; exact .inr e) (Nat.le_refl _)]
  simp only
  rw [bd 0 0 lo 0 ha (Nat.le_refl _)]
 ·have hlen:=hal.len
  have hres:eN L.P ((rs.drop a).take (b - a)) ((l.take b).drop a):=by
   rw [show (l.take b).drop a = (l.drop a).take (b - a) by rw [List.drop_take]]
   exact (hal.drop a).take _
  refine ⟨.bQ g ((rs.drop a).take (b - a)) (B7 none rs.length b full rs.length),fun Z=>?_,.inr ⟨g,_,_,rfl,hres⟩,fun hF=>.inr ⟨(rs.drop a).take (b - a),B7 none rs.length b full rs.length,?_,hres⟩⟩
  ·unfold slice
   simp only [hts,ht,Option.isSome_none,Bool.false_and]
   rw [hn,C4 hal]
   simp only [Bool.not_true,Bool.false_eq_true,if_false]
   rw [show bound rs.length none rs.length = some rs.length from rfl]
   simp only
   rw [bd rs.length rs.length hi b (by rw [hlen]; exact hb) (by omega)]
   simp only
   rw [bd b 0 lo a ha hab]
  ·rcases hF with ⟨e,-⟩ | ⟨_,_,e,-⟩
   ·cases e
   ·cases e; rfl
end
end
end Go.Ax
end
section
namespace Go.Proofs.YtlbbdpkjeeiahaaGreatDoor
open Go Go.Ax Go.AxS
section
structure bM (E:Env):Prop where
 pM:E.ty 3 = some { kd:=.int .i64,size:=1,bytes:=8,zero:=.int .i64 0 }
 GY:E.ty 4 = some { kd:=.bool,size:=1,bytes:=1,zero:=.bool false }
 ty5:E.ty 5 = some { kd:=.int .u8,size:=1,bytes:=1,zero:=.int .u8 0 }
 cK:E.ty 9 = some { kd:=.str,size:=1,bytes:=16,zero:=.str [] }
 A_:E.ty 22 = some { kd:=.sl 37,size:=1,bytes:=24,zero:=.aC }
 ty25:E.ty 25 = some { kd:=.int .i64,size:=1,bytes:=8,zero:=.int .i64 0 }
 aS:E.ty 28 = some { kd:=.sl 9,size:=1,bytes:=24,zero:=.aC }
 CK:E.ty 30 = some { kd:=.sl 28,size:=1,bytes:=24,zero:=.aC }
 LB:E.ty 32 = some { kd:=.sl 38,size:=1,bytes:=24,zero:=.aC }
 fE:E.ty 35 = some { kd:=.sl 75,size:=1,bytes:=24,zero:=.aC }
 bE:E.ty 37 = some { kd:=.jC [(0,9),(1,28),(2,28),(3,28),(4,35)],size:=5,bytes:=112,zero:=.agg [.str [],.aC,.aC,.aC,.aC] }
 uY:E.ty 38 = some { kd:=.sl 4,size:=1,bytes:=24,zero:=.aC }
 E6:E.ty 40 = some { kd:=.sl 46,size:=1,bytes:=24,zero:=.aC }
 nE:E.ty 46 = some { kd:=.jC [(0,4),(1,9)],size:=2,bytes:=24,zero:=.agg [.bool false,.str []] }
 Rl:E.ty 56 = some { kd:=.sl 3,size:=1,bytes:=24,zero:=.aC }
 cP:E.ty 75 = some { kd:=.jC [(0,9),(1,3),(2,28),(3,28),(4,3)],size:=5,bytes:=80,zero:=.agg [.str [],.int .i64 0,.aC,.aC,.int .i64 0] }
 Tp:E.ty 96 = some { kd:=.map 9 28,size:=1,bytes:=8,zero:=.bS }
 qN:E.ty 98 = some { kd:=.map 9 4,size:=1,bytes:=8,zero:=.bS }
 Ba:E.ty 104 = some { kd:=.map 9 9,size:=1,bytes:=8,zero:=.bS }
 V4:E.hspec 178 = none
 TL:E.spec 178 = none
 WQ:E.fn 178 = some (aA Tryz.f178)
 Vd:E.mode 178 = .eT
 V5:E.hspec 177 = none
 TM:E.spec 177 = none
 WR:E.fn 177 = some (aA Tryz.f177)
 Ve:E.mode 177 = .eT
 We:E.hspec 144 = none
 TW:E.spec 144 = none
 WZ:E.fn 144 = some (aA Tryz.f144)
 Vm:E.mode 144 = .eT
 hs18:E.hspec 18 = none
 LZ:E.spec 18 = none
 fn18:E.fn 18 = some (aA Tryz.f18)
 md18:E.mode 18 = .eT
 Wf:E.hspec 143 = none
 TX:E.spec 143 = none
 W4:E.fn 143 = some (aA Tryz.f143)
 Vn:E.mode 143 = .eT
 Wo:E.hspec 106 = none
 T6:E.spec 106 = none
 Xc:E.fn 106 = some (aA Tryz.f106)
 Vw:E.mode 106 = .eT
 Wq:E.hspec 105 = none
 T7:E.spec 105 = none
 Xd:E.fn 105 = some (aA Tryz.f105)
 Vx:E.mode 105 = .eT
 hs60:E.hspec 60 = none
 sp60:E.spec 60 = none
 fn60:E.fn 60 = some (aA Tryz.f60)
 md60:E.mode 60 = .eT
 hs38:E.hspec 38 = none
 sp38:E.spec 38 = none
 fn38:E.fn 38 = some (aA Tryz.f38)
 md38:E.mode 38 = .eT
 hs31:E.hspec 31 = none
 Tu:E.spec 31 = none
 fn31:E.fn 31 = some (aA Tryz.f31)
 md31:E.mode 31 = .eT
 hs17:E.hspec 17 = none
 L0:E.spec 17 = none
 fn17:E.fn 17 = some (aA Tryz.f17)
 md17:E.mode 17 = .eT
 Wn:E.hspec 107 = none
 T5:E.spec 107 = none
 Xb:E.fn 107 = some (aA Tryz.f107)
 Vv:E.mode 107 = .eT
 hs61:E.hspec 61 = none
 sp61:E.spec 61 = none
 fn61:E.fn 61 = some (aA Tryz.f61)
 md61:E.mode 61 = .eT
 hs13:E.hspec 13 = none
 L5:E.spec 13 = none
 fn13:E.fn 13 = some (aA Tryz.f13)
 md13:E.mode 13 = .eT
 hs12:E.hspec 12 = none
 L6:E.spec 12 = none
 fn12:E.fn 12 = some (aA Tryz.f12)
 md12:E.mode 12 = .eT
 hs59:E.hspec 59 = none
 sp59:E.spec 59 = none
 fn59:E.fn 59 = some (aA Tryz.f59)
 md59:E.mode 59 = .eT
 hs78:E.hspec 78 = none
 sp78:E.spec 78 = none
 fn78:E.fn 78 = some (aA Tryz.f78)
 md78:E.mode 78 = .shared
 hs16:E.hspec 16 = none
 L1:E.spec 16 = none
 fn16:E.fn 16 = some (aA Tryz.f16)
 md16:E.mode 16 = .eT
 VU:E.hspec 223 = none
 TD:E.spec 223 = none
 WH:E.fn 223 = some (aA Tryz.f223)
 U6:E.mode 223 = .eT
 VO:E.hspec 253 = none
 Tx:E.spec 253 = none
 WB:E.fn 253 = some (aA Tryz.f253)
 U1:E.mode 253 = .eT
 VT:E.hspec 224 = none
 TC:E.spec 224 = none
 WG:E.fn 224 = some (aA Tryz.f224)
 U5:E.mode 224 = .eT
 VP:E.hspec 252 = none
 Tz:E.spec 252 = none
 WC:E.fn 252 = some (aA Tryz.f252)
 U2:E.mode 252 = .eT
 V3:E.hspec 186 = none
 TK:E.spec 186 = none
 WO:E.fn 186 = some (aA Tryz.f186)
 Vc:E.mode 186 = .eT
 V8:E.hspec 169 = none
 TP:E.spec 169 = none
 WT:E.fn 169 = some (aA Tryz.f169)
 Vg:E.mode 169 = .eT
 Wh:E.hspec 125 = none
 TZ:E.spec 125 = none
 W6:E.fn 125 = some (aA Tryz.f125)
 Vp:E.mode 125 = .eT
 V7:E.hspec 170 = none
 TO:E.spec 170 = none
 WS:E.fn 170 = some (aA Tryz.f170)
 Vf:E.mode 170 = .eT
 V2:E.hspec 199 = none
 TJ:E.spec 199 = none
 WN:E.fn 199 = some (aA Tryz.f199)
 Vb:E.mode 199 = .eT
 V_:E.hspec 167 = none
 TR:E.spec 167 = none
 WV:E.fn 167 = some (aA Tryz.f167)
 Vi:E.mode 167 = .eT
 VY:E.hspec 201 = none
 TH:E.spec 201 = none
 WL:E.fn 201 = some (aA Tryz.f201)
 U_:E.mode 201 = .eT
 VX:E.hspec 202 = none
 TG:E.spec 202 = none
 WK:E.fn 202 = some (aA Tryz.f202)
 U9:E.mode 202 = .eT
 V9:E.hspec 168 = none
 TQ:E.spec 168 = none
 WU:E.fn 168 = some (aA Tryz.f168)
 Vh:E.mode 168 = .eT
 VW:E.hspec 203 = none
 TF:E.spec 203 = none
 WJ:E.fn 203 = some (aA Tryz.f203)
 U8:E.mode 203 = .eT
 VV:E.hspec 204 = none
 TE:E.spec 204 = none
 WI:E.fn 204 = some (aA Tryz.f204)
 U7:E.mode 204 = .eT
 Wi:E.hspec 124 = none
 T0:E.spec 124 = none
 W7:E.fn 124 = some (aA Tryz.f124)
 Vq:E.mode 124 = .eT
 Wm:E.hspec 108 = none
 T4:E.spec 108 = none
 Xa:E.fn 108 = some (aA Tryz.f108)
 Vu:E.mode 108 = .eT
 Wd:E.hspec 145 = none
 TV:E.spec 145 = none
 WY:E.fn 145 = some (aA Tryz.f145)
 Vl:E.mode 145 = .eT
 Wc:E.hspec 146 = none
 TU:E.spec 146 = none
 WX:E.fn 146 = some (aA Tryz.f146)
 Vk:E.mode 146 = .eT
 Wb:E.hspec 147 = none
 TT:E.spec 147 = none
 WW:E.fn 147 = some (aA Tryz.f147)
 Vj:E.mode 147 = .eT
 Wl:E.hspec 109 = none
 T3:E.spec 109 = none
 W_:E.fn 109 = some (aA Tryz.f109)
 Vt:E.mode 109 = .eT
 hs62:E.hspec 62 = none
 sp62:E.spec 62 = none
 fn62:E.fn 62 = some (aA Tryz.f62)
 md62:E.mode 62 = .eT
 VQ:E.hspec 251 = none
 TA:E.spec 251 = none
 WD:E.fn 251 = some (aA Tryz.f251)
 U3:E.mode 251 = .eT
 VN:E.hspec 287 = none
 Tw:E.spec 287 = none
 WA:E.fn 287 = some (aA Tryz.f287)
 U0:E.mode 287 = .eT
 VM:E.hspec 308 = none
 Tv:E.spec 308 = none
 Wz:E.fn 308 = some (aA Tryz.f308)
 UZ:E.mode 308 = .eT
 hs67:E.hspec 67 = none
 sp67:E.spec 67 = none
 fn67:E.fn 67 = some (aA Tryz.f67)
 md67:E.mode 67 = .eT
 hs65:E.hspec 65 = none
 sp65:E.spec 65 = none
 fn65:E.fn 65 = some (aA Tryz.f65)
 md65:E.mode 65 = .eT
 VZ:E.hspec 200 = none
 TI:E.spec 200 = none
 WM:E.fn 200 = some (aA Tryz.f200)
 Va:E.mode 200 = .eT
 VS:E.hspec 237 = none
 TB:E.spec 237 = none
 WE:E.fn 237 = some (aA Tryz.f237)
 U4:E.mode 237 = .eT
 hs92:E.hspec 92 = none
 sp92:E.spec 92 = none
 fn92:E.fn 92 = some (aA Tryz.f92)
 md92:E.mode 92 = .eT
 Wg:E.hspec 131 = none
 TY:E.spec 131 = none
 W5:E.fn 131 = some (aA Tryz.f131)
 Vo:E.mode 131 = .eT
 hs97:E.hspec 97 = none
 sp97:E.spec 97 = none
 fn97:E.fn 97 = some (aA Tryz.f97)
 md97:E.mode 97 = .shared
 Wk:E.hspec 110 = none
 T2:E.spec 110 = none
 W9:E.fn 110 = some (aA Tryz.f110)
 Vs:E.mode 110 = .shared
 V6:E.hspec 171 = none
 TN:E.spec 171 = some kT
 Wa:E.hspec 148 = none
 TS:E.spec 148 = some nS
 EF:E.hspec 64 = some (oF 9)
 SD:aN E (cutAt [1,1,0,1,2,2,1,0,2,1] (aA Tryz.f177).code) = true
 SJ:aN E (cutAt [1,0,1,2,2,1,0,2,0] (aA Tryz.f106).code) = true
 Q_:gE E (opsOf (cutAt [1,0] (aA Tryz.f105).code)) = .no
 RV:cM E .no (opsOf (cutAt [1,0] (aA Tryz.f105).code)) = some [⟨2,4,true,false⟩,  ⟨2,7,true,false⟩,  ⟨2,10,true,false⟩,  ⟨5,7,true,false⟩,  ⟨5,10,true,false⟩,  ⟨8,10,true,false⟩]
 Q9:gE E (opsOf (cutAt [1,1,0,1,2,2,1,0,2,1] (aA Tryz.f105).code)) = .no
 RU:cM E .no (opsOf (cutAt [1,1,0,1,2,2,1,0,2,1] (aA Tryz.f105).code)) = some [⟨7,10,true,false⟩,  ⟨7,14,true,false⟩,  ⟨8,10,true,false⟩,  ⟨8,14,true,false⟩]
 Sz:aN E (cutAt [1,1,1,0,1,2,2,1,0,2,1,1,0,1,2,2,1,0,2,0] (aA Tryz.f60).code) = true
 Sy:aN E (cutAt [1,1,1,1,0,1,2,2,1,0,2,0] (aA Tryz.f60).code) = true
 Qf:aN E (cutAt [1,1,1,1,0,1,2,2,1,0,2,1,2,2,1,0,2,1,2,2,1,0,2] (aA Tryz.f107).code) = true
 Xx:aN E (cutAt [1,1,1,1,0,1,2,2,1,0,2,0] (aA Tryz.f61).code) = true
 Sx:aN E (cutAt [1,1,1,1,1,1,1,1,1,1,1,1,1,1,0,1,2,2,1,0,2,1,0,1,2,2,1,0,2,0] (aA Tryz.f61).code) = true
 Xz:aN E (cutAt [1,0,1,2,2,1,0,2,1,1,0,0] (aA Tryz.f13).code) = true
 SG:aN E (cutAt [1,1,1,0,1,2,2,1,0,2,1,1,1,0,0] (aA Tryz.f13).code) = true
 SF:aN E (cutAt [1,1,1,1,0,1,2,2,1,0,2,1,2,2,1,1,0,2,1,1,0,0] (aA Tryz.f13).code) = true
 SE:aN E (cutAt [1,1,1,1,1,0,1,1,0,0] (aA Tryz.f13).code) = true
 Tm:gE E (opsOf (cutAt [1,0] (aA Tryz.f59).code)) = .no
 UQ:cM E .no (opsOf (cutAt [1,0] (aA Tryz.f59).code)) = some [⟨1,31,false,true⟩,  ⟨3,31,false,true⟩,  ⟨5,31,false,true⟩,  ⟨6,31,false,true⟩,  ⟨8,31,false,true⟩,  ⟨10,31,false,true⟩,  ⟨12,31,false,true⟩,  ⟨13,31,false,true⟩,  ⟨15,31,false,true⟩,  ⟨17,31,false,true⟩,  ⟨19,31,false,true⟩,  ⟨20,31,false,true⟩,  ⟨22,31,false,true⟩,  ⟨24,31,false,true⟩,  ⟨26,31,false,true⟩,  ⟨27,31,false,true⟩,  ⟨29,31,false,true⟩]
 Tl:gE E (opsOf (cutAt [1,1,1,0,1,2,2,1,1,0,2,1] (aA Tryz.f59).code)) = .no
 UP:cM E .no (opsOf (cutAt [1,1,1,0,1,2,2,1,1,0,2,1] (aA Tryz.f59).code)) = some [⟨4,38,false,true⟩,  ⟨33,38,false,true⟩,  ⟨35,38,false,true⟩]
 Tf:gE E (opsOf (cutAt [1,0] (aA Tryz.f78).code)) = .app
 UJ:cM E .app (opsOf (cutAt [1,0] (aA Tryz.f78).code)) = some [⟨1,12,false,true⟩,  ⟨3,12,false,true⟩,  ⟨4,12,false,true⟩,  ⟨6,12,false,true⟩,  ⟨7,12,false,true⟩,  ⟨9,12,false,true⟩,  ⟨10,12,false,true⟩]
 Te:gE E (opsOf (cutAt [1,1,0,1,2,2,1,0,2,1,0] (aA Tryz.f78).code)) = .app
 UI:cM E .app (opsOf (cutAt [1,1,0,1,2,2,1,0,2,1,0] (aA Tryz.f78).code)) = some []
 To:gE E (opsOf (cutAt [1,1,0,1,2,2,1,1,0,2,1,0] (aA Tryz.f16).code)) = .lit
 US:cM E .lit (opsOf (cutAt [1,1,0,1,2,2,1,1,0,2,1,0] (aA Tryz.f16).code)) = some [⟨1,2,true,false⟩]
 SI:aN E (cutAt [1,0,1,2,2,1,1,0,2,1,1,1,0,0] (aA Tryz.f108).code) = true
 Qe:aN E (cutAt [1,1,1,1,0,1,2,2,1,1,0,2,1,1,0,1,0,0] (aA Tryz.f108).code) = true
 Qd:aN E (cutAt [1,1,1,1,1,0,1,2,2,1,1,0,2,1,1,0,0] (aA Tryz.f108).code) = true
 Oe:gE E (opsOf (cutAt [1,1,1,1,0,1,2,2,1,1,0,2,1,1,1,1] (aA Tryz.f147).code)) = .no
 OQ:cM E .no (opsOf (cutAt [1,1,1,1,0,1,2,2,1,1,0,2,1,1,1,1] (aA Tryz.f147).code)) = some [⟨2,4,false,true⟩]
 Xw:aN E (cutAt [1,1,0,1,1,0,0] (aA Tryz.f62).code) = true
 SH:aN E (cutAt [1,1,0,1,2,2,1,0,2,0] (aA Tryz.f110).code) = true
 Qc:aN E (cutAt [1,1,0,1,2,2,1,0,2,1,0,1,0,1,2,2,1,0,2,0] (aA Tryz.f110).code) = true
def aJ:Lay aM:=⟨fun r s=>r = [.str s],1,fun _ _ h=>by rw [h]; rfl,fun _ _ h c hc=>by rw [h] at hc; cases hc with | head=>rfl | tail _ h=>cases h⟩
def eV:Lay Step:=⟨fun r x=>∃ a l,r = [.str x.out,.int .i64 x.op,a,l,.int .i64 x.n] /\ IS aJ a x.args /\ IS aJ l x.lits,5,fun _ _ ⟨_,_,h,_⟩=>by rw [h]; rfl,fun _ _ ⟨a,l,h,h1,h2⟩ c hc=>by
 rw [h] at hc
 simp only [mem_cons,List.not_mem_nil,or_false] at hc
 rcases hc with rfl | rfl | rfl | rfl | rfl
 ·rfl
 ·rfl
 ·exact h1.bB
 ·exact h2.bB
 ·rfl⟩
def cV:Lay aF:=⟨fun r x=>∃ i o a s,r = [.str x.name,i,o,a,s] /\ IS aJ i x.ins /\ IS aJ o x.outs /\ IS aJ a x.after /\ IS eV s x.steps,5,fun _ _ ⟨_,_,_,_,h,_⟩=>by rw [h]; rfl,fun _ _ ⟨i,o,a,s,h,h1,h2,h3,h4⟩ c hc=>by
 rw [h] at hc
 simp only [mem_cons,List.not_mem_nil,or_false] at hc
 rcases hc with rfl | rfl | rfl | rfl | rfl
 ·rfl
 ·exact h1.bB
 ·exact h2.bB
 ·exact h3.bB
 ·exact h4.bB⟩
def Cu:Lay Bool:=⟨fun r b=>r = [.bool b],1,fun _ _ h=>by rw [h]; rfl,fun _ _ h c hc=>by rw [h] at hc; cases hc with | head=>rfl | tail _ h=>cases h⟩
def uG:Lay (List Bool):=⟨fun r l=>∃ v,r = [v] /\ IS Cu v l,1,fun _ _ ⟨_,h,_⟩=>by rw [h]; rfl,fun _ _ ⟨v,h,h1⟩ c hc=>by rw [h] at hc; cases hc with | head=>exact h1.bB | tail _ h=>cases h⟩
section
variable {E:Env} {Z:Sg} {v:V}
theorem fH (h:bM E) {s:aM} {Z:Sg}:lenOf E Z 9 (.str s) = some s.length:=by
 unfold lenOf; rw [h.cK]
theorem IS.at {α:Type} {L:Lay α} {ts t:Nat} {si ei:Ty} {l:List α} (hts:E.ty ts = some si) (hk:si.kd = .sl t) (ht:E.ty t = some ei) (hn:ei.size = L.n) (h:IS L v l) {i:Nat} {x:α} (hx:l[i]? = some x) :
  ∃ g r,indexAddr E ts v (.int .i64 (i:Int)) = some (.dB g r) /\ L.P r x:=by
 obtain ⟨p,r,h1,h2,-,-,⟨g,rfl⟩ | ⟨b,o,rfl,-⟩⟩:=DQ (Z:=[]) hts hk ht hn (h.ls [] t) hx
 ·exact ⟨g,r,h1,h2⟩
 ·exfalso
  rcases h with ⟨rfl,rfl⟩ | ⟨g,rs,full,rfl,ha⟩
  ·cases hx
  ·unfold indexAddr at h1
   repeat' (split at h1)
   all_goals first
    | (cases h1; done)
    | contradiction
theorem gI (h:bM E):gY E #[28,28] = true:=by
 show (match E.ty 28 with
  | some xi=>!yX xi.kd
  | none=>false) = true
 rw [h.aS]; rfl
theorem bK (h:bM E) {l} (ia:IS aJ v l) (Z:Sg):lenOf E Z 28 v = some l.length:=pI h.aS rfl (ia.ls Z 9)
theorem QA (h:bM E) {l} (ia:IS aJ v l) {i:Nat} {x} (hx:l[i]? = some x):∃ g r,indexAddr E 28 v (.int .i64 (i:Int)) = some (.dB g r) /\ (aJ).P r x:=IS.at h.aS rfl h.cK rfl ia hx
theorem jM (h:bM E) {l} (ha:LS aJ 9 Z v l):∃ v',aZ Z E.ty true v = some v' /\ IS aJ v' l:=Ed h.cK rfl ha
theorem Aa (h:bM E):gY E #[35,35] = true:=by
 show (match E.ty 35 with
  | some xi=>!yX xi.kd
  | none=>false) = true
 rw [h.fE]; rfl
theorem kV (h:bM E) {l} (ia:IS eV v l) (Z:Sg):lenOf E Z 35 v = some l.length:=pI h.fE rfl (ia.ls Z 75)
theorem NW (h:bM E) {l} (ia:IS eV v l) {i:Nat} {x} (hx:l[i]? = some x):∃ g r,indexAddr E 35 v (.int .i64 (i:Int)) = some (.dB g r) /\ (eV).P r x:=IS.at h.fE rfl h.cP rfl ia hx
theorem Bk (h:bM E) {l} (ha:LS eV 75 Z v l):∃ v',aZ Z E.ty true v = some v' /\ IS eV v' l:=Ed h.cP rfl ha
theorem sN (h:bM E):gY E #[22,22] = true:=by
 show (match E.ty 22 with
  | some xi=>!yX xi.kd
  | none=>false) = true
 rw [h.A_]; rfl
theorem cA (h:bM E) {l} (ia:IS cV v l) (Z:Sg):lenOf E Z 22 v = some l.length:=pI h.A_ rfl (ia.ls Z 37)
theorem NX (h:bM E) {l} (ia:IS cV v l) {i:Nat} {x} (hx:l[i]? = some x):∃ g r,indexAddr E 22 v (.int .i64 (i:Int)) = some (.dB g r) /\ (cV).P r x:=IS.at h.A_ rfl h.bE rfl ia hx
theorem dW (h:bM E) {l} (ha:LS cV 37 Z v l):∃ v',aZ Z E.ty true v = some v' /\ IS cV v' l:=Ed h.bE rfl ha
theorem FF (h:bM E):gY E #[38,38] = true:=by
 show (match E.ty 38 with
  | some xi=>!yX xi.kd
  | none=>false) = true
 rw [h.uY]; rfl
theorem NZ (h:bM E) {l} (ia:IS Cu v l) {i:Nat} {x} (hx:l[i]? = some x):∃ g r,indexAddr E 38 v (.int .i64 (i:Int)) = some (.dB g r) /\ (Cu).P r x:=IS.at h.uY rfl h.GY rfl ia hx
theorem MW (h:bM E) {l} (ia:IS uG v l) (Z:Sg):lenOf E Z 32 v = some l.length:=pI h.LB rfl (ia.ls Z 38)
theorem JL (h:bM E) {l} (ia:IS uG v l) {i:Nat} {x} (hx:l[i]? = some x):∃ g r,indexAddr E 32 v (.int .i64 (i:Int)) = some (.dB g r) /\ (uG).P r x:=IS.at h.LB rfl h.uY rfl ia hx
theorem sX (h:bM E) {g:Bool} {u:V} {r:List V}:loadAt E Z 4 (.dB g (u :: r)) = some u:=by
 unfold loadAt
 rw [h.GY]
 rfl
theorem qZ (h:bM E) {g:Bool} {u:V} {r:List V}:loadAt E Z 9 (.dB g (u :: r)) = some u:=by
 unfold loadAt
 rw [h.cK]
 rfl
theorem Ji (h:bM E) {g:Bool} {u:V} {r:List V}:loadAt E Z 28 (.dB g (u :: r)) = some u:=by
 unfold loadAt
 rw [h.aS]
 rfl
theorem QS (h:bM E) {g:Bool} {v0 v1 v2 v3 v4:V}:loadAt E Z 37 (.dB g [v0,v1,v2,v3,v4]) = some (.agg [v0,v1,v2,v3,v4]):=by
 unfold loadAt
 rw [h.bE]
 rfl
theorem lX (h:bM E) {g:Bool} {u:V} {r:List V}:loadAt E Z 38 (.dB g (u :: r)) = some u:=by
 unfold loadAt
 rw [h.uY]
 rfl
theorem kP:Ax.bytes ⟨#[]⟩ = []:=rfl
theorem KX:Ax.bytes ⟨#[46]⟩ = [46]:=rfl
theorem Qk:Ax.bytes ⟨#[46,46]⟩ = [46,46]:=rfl
theorem Cl:Ax.bytes ⟨#[114,117,108,101]⟩ = [114,117,108,101]:=rfl
theorem EK:Ax.bytes ⟨#[105,110]⟩ = [105,110]:=rfl
theorem HZ:Ax.bytes ⟨#[111,117,116]⟩ = [111,117,116]:=rfl
theorem Nt:Ax.bytes ⟨#[97,102,116,101,114]⟩ = [97,102,116,101,114]:=rfl
theorem fJ (h:bM E) {l} (ia:IS aJ v l) {i:Nat} {x} (hx:l[i]? = some x):∃ g,indexAddr E 28 v (.int .i64 (i:Int)) = some (.dB g [.str x]):=by
 obtain ⟨g,r,e,hr⟩:=QA h ia hx
 exact ⟨g,by rw [e,show r = [.str x] from hr]⟩
theorem t_ (h:bM E) {l} (ia:IS eV v l) {i:Nat} {x} (hx:l[i]? = some x):∃ g a b,indexAddr E 35 v (.int .i64 (i:Int)) = some (.dB g [.str x.out,.int .i64 x.op,a,b,.int .i64 x.n]) /\ IS aJ a x.args /\ IS aJ b x.lits:=by
 obtain ⟨g,r,e,a,b,hr,h1,h2⟩:=NW h ia hx
 exact ⟨g,a,b,by rw [e,hr],h1,h2⟩
theorem eM (h:bM E) {l} (ia:IS cV v l) {i:Nat} {x} (hx:l[i]? = some x):∃ g a b c d,indexAddr E 22 v (.int .i64 (i:Int)) = some (.dB g [.str x.name,a,b,c,d]) /\ IS aJ a x.ins /\ IS aJ b x.outs /\ IS aJ c x.after /\ IS eV d x.steps:=by
 obtain ⟨g,r,e,a,b,c,d,hr,h1⟩:=NX h ia hx
 exact ⟨g,a,b,c,d,by rw [e,hr],h1⟩
theorem cL (Z:Sg) (s:aM):aZ Z E.ty true (.str s) = some (.str s):=rfl
theorem nT {α:Type} {L:Lay α} {l:List α} (ia:IS L v l) (Z:Sg):aZ Z E.ty true v = some v:=eZ ia.bB (dG ia.bB)
def GR (v:V) (x:aF):Prop:=∃ a b c d,v = .agg [.str x.name,a,b,c,d] /\ IS aJ a x.ins /\ IS aJ b x.outs /\ IS aJ c x.after /\ IS eV d x.steps
def Lm (v:V) (x:Step):Prop:=∃ a b,v = .agg [.str x.out,.int .i64 x.op,a,b,.int .i64 x.n] /\ IS aJ a x.args /\ IS aJ b x.lits
theorem Fk {cs:List V} (hc:∀ c ∈ cs,Ax.bB c = true) (Z:Sg):aZ Z E.ty true (.agg cs) = some (.agg cs):=by
 have e:aX (aZ.one Z E.ty true) cs = some cs:=iQ fun c hx=>by
  have:=eZ (Z:=Z) (ty:=E.ty) (g:=true) (hc c hx) (dG (hc c hx))
  have h2:=hc c hx
  cases c <;> first | exact this | cases h2
 show (match aX (aZ.one Z E.ty true) cs with
  | some l=>some (V.agg l)
  | none=>none) = _
 rw [e]
theorem GR.snap {x:aF} (h:GR v x) (Z:Sg):aZ Z E.ty true v = some v:=by
 obtain ⟨a,b,c,d,rfl,h1,h2,h3,h4⟩:=h
 refine Fk (fun y hy=>?_) Z
 simp only [mem_cons,List.not_mem_nil,or_false] at hy
 rcases hy with rfl | rfl | rfl | rfl | rfl
 ·rfl
 ·exact h1.bB
 ·exact h2.bB
 ·exact h3.bB
 ·exact h4.bB
theorem Lm.snap {x:Step} (h:Lm v x) (Z:Sg):aZ Z E.ty true v = some v:=by
 obtain ⟨a,b,rfl,h1,h2⟩:=h
 refine Fk (fun y hy=>?_) Z
 simp only [mem_cons,List.not_mem_nil,or_false] at hy
 rcases hy with rfl | rfl | rfl | rfl | rfl
 ·rfl
 ·rfl
 ·exact h1.bB
 ·exact h2.bB
 ·rfl
theorem gX {a b:aM} (e:a = b):Ax.seq a b = true:=by rw [Eh]; exact decide_eq_true e
theorem gB {a b:aM} (e:a ≠ b):Ax.seq a b = false:=by rw [Eh]; exact decide_eq_false e
theorem dR {i n:Nat} (h:i < n):decide ((i:Int) < (n:Int)) = true:=decide_eq_true (by omega)
theorem dS {i n:Nat} (h:¬ i < n):decide ((i:Int) < (n:Int)) = false:=decide_eq_false (by omega)
theorem bU (i:Nat) (h:i < 9223372036854775807):wr .i64 ((i:Int) + 1) = ((i + 1:Nat):Int):=by
 rw [yB,if_pos]
 ·exact (Int.natCast_succ i).symm
 ·have h1:lo .i64 = -9223372036854775808:=rfl
  have h2:hi .i64 = 9223372036854775807:=rfl
  rw [h1,h2,Bool.and_eq_true,decide_eq_true_eq,decide_eq_true_eq]
  omega
structure Small (x:aF):Prop where
 ins:x.ins.length <= 10
 outs:x.outs.length <= 6
 after:x.after.length <= 10
 steps:x.steps.length <= 14
 args:∀ s ∈ x.steps,s.args.length <= 8
 lits:∀ s ∈ x.steps,s.lits.length <= 3
structure XL (x:aF):Prop where
 ins:x.ins.length <= 10
 outs:x.outs.length <= 6
 after:x.after.length <= 10
 steps:x.steps.length <= 14
 args:∀ s ∈ x.steps,s.args.length <= 8796093022208
 lits:∀ s ∈ x.steps,s.lits.length <= 8796093022208
theorem Small.mid {x:aF} (h:Small x):XL x:=⟨h.ins,h.outs,h.after,h.steps,fun s hs=>by have:=h.args s hs; omega,fun s hs=>by have:=h.lits s hs; omega⟩
def idx:Option Nat -> Int
 | some i=>i
 | none=>-1
theorem gF {α:Type} {p:α -> Bool}:∀ {l:List α},(∀ x ∈ l,p x = false) -> bF p l = none
 | [],_=>rfl
 | x :: l,h=>by rw [bF,h x (mem_cons_self ..),gF fun y hy=>h y (mem_cons_of_mem _ hy)]; rfl
theorem iK {α:Type} {p:α -> Bool}:∀ {l:List α} {i:Nat} {x:α},(∀ j y,j < i -> l[j]? = some y -> p y = false) -> l[i]? = some x -> p x = true -> bF p l = some i
 | [],i,x,_,hx,_=>by cases hx
 | y :: l,0,x,_,hx,hp=>by cases hx; rw [bF,if_pos hp]
 | y :: l,i + 1,x,h,hx,hp=>by
  rw [bF,if_neg (by rw [h 0 y (by omega) rfl]; simp),iK (i:=i) (x:=x) (fun j z hj hz=>h (j + 1) z (by omega) hz) hx hp]
  rfl
theorem zO {α:Type} {p:α -> Bool} {l:List α} (h:∀ j y,j < l.length -> l[j]? = some y -> p y = true):l.all p = true:=by
 rw [List.all_eq_true]; intro x hx
 obtain ⟨i,hi,e⟩:=List.getElem_of_mem hx
 exact h i x hi (by rw [List.getElem?_eq_getElem hi,e])
theorem gK {α:Type} {p:α -> Bool} {l:List α} {i:Nat} {x:α} (hx:l[i]? = some x) (hp:p x = false):l.all p = false:=by
 rw [List.all_eq_false]; exact ⟨x,mem_of_getElem? hx,by simp [hp]⟩
end
end
section
section
variable {E:Env} {Z:Sg} {K:V -> Sg -> Prop}
theorem NP (h:bM E) {a:V} {l:List aM} {s:aM} (ha:LS aJ 9 Z a l) (hsm:l.length <= 4294967296):aB E 18 [a,.str s] Z K = K (.int .i64 (idx (bF (fun x=>decide (x = s)) l))) Z:=by
 refine aB.of ?_
 obtain ⟨a',ea,ia⟩:=jM h ha
 rw [aH h.hs18 h.LZ h.fn18 h.md18 (args':=[a',.str s]) (by simp only [aX,ea,cL]),bD (by kernel_rfl)]
 simp only [aA,Tryz.f18,KP,↓reduceIte,reduceLT,reduceAdd,reduceNeg]
 have la:=bK h ia
 refine aQ (fun i F Y=>Y = [] /\ F.get 0 = a' /\ F.get 1 = .str s /\ F.get 5 = .int .i64 (i:Int) /\ ∀ j y,j < i -> l[j]? = some y -> y ≠ s) l.length ?_ ?_ l.length 0 _ _ (by omega) ⟨rfl,(iZ (by simp +decide only [GS,and_self]) (fun j y hj=>by omega))⟩
 ·rintro i F Y hi ⟨rfl,g0,g1,g5,hp⟩ next
  obtain ⟨x,hx⟩:∃ x,l[i]? = some x:=⟨_,List.getElem?_eq_getElem hi⟩
  obtain ⟨g,e1⟩:=fJ h ia hx
  have hlt:=dR hi
  have hadd:=bU i (by omega)
  rw [aG]
  by_cases hxs:x = s
  ·have hs:=gX hxs
   simp only [KP,Ax.loadAt,↓reduceIte,reduceEqDiff,reduceLT,reduceCtorEq,reduceNeg,h.cK,g0,g1,g5,la,hlt,e1,hs]
   rw [iK (i:=i) (x:=x) (fun j y hj hy=>decide_eq_false (hp j y hj hy)) hx (decide_eq_true hxs)]
   exact rfl
  ·have hs:=gB hxs
   simp only [KP,Ax.loadAt,↓reduceIte,reduceEqDiff,reduceLT,reduceCtorEq,reduceNeg,h.cK,g0,g1,g5,la,hlt,e1,hs,hadd]
   refine next _ _ ⟨rfl,(iZ (by simp +decide only [GS,g0,g1,and_self]) (fun j y hj hy=>?_))⟩
   rcases Nat.lt_or_ge j i with g | g
   ·exact hp j y g hy
   ·obtain rfl:j = i:=by omega
    rw [hx] at hy; cases hy; exact hxs
 ·rintro F Y ⟨rfl,g0,g1,g5,hp⟩
  have hlt:=dS (Nat.lt_irrefl l.length)
  rw [aG]
  simp only [KP,↓reduceIte,reduceEqDiff,reduceLT,reduceCtorEq,reduceNeg,g0,g5,la,hlt]
  rw [gF fun x hx=>by
   obtain ⟨j,hj,e⟩:=List.getElem_of_mem hx
   exact decide_eq_false (hp j x hj (by rw [List.getElem?_eq_getElem hj,e]))]
  exact rfl
theorem rA (h:bM E) {a:V} {l:List aM} {s:aM} (ha:LS aJ 9 Z a l) (hsm:l.length <= 4294967296):KC E 18 [a,.str s] Z ((.int .i64 (idx (bF (fun x=>decide (x = s)) l)))) Z:=dA fun _=>NP h ha hsm
theorem XH (h:bM E) {a:V} {l:List aF} {s:aM} (ha:LS cV 37 Z a l) (hsm:l.length <= 4294967296):aB E 31 [a,.str s] Z K = K (.int .i64 (idx (fF l s))) Z:=by
 refine aB.of ?_
 obtain ⟨a',ea,ia⟩:=dW h ha
 rw [aH h.hs31 h.Tu h.fn31 h.md31 (args':=[a',.str s]) (by simp only [aX,ea,cL]),bD (by kernel_rfl)]
 simp only [aA,Tryz.f31,KP,↓reduceIte,reduceLT,reduceAdd,reduceNeg]
 have la:=cA h ia
 refine aQ (fun i F Y=>Y = [] /\ F.get 0 = a' /\ F.get 1 = .str s /\ F.get 5 = .int .i64 (i:Int) /\ ∀ j y,j < i -> l[j]? = some y -> y.name ≠ s) l.length ?_ ?_ l.length 0 _ _ (by omega) ⟨rfl,(iZ (by simp +decide only [GS,and_self]) (fun j y hj=>by omega))⟩
 ·rintro i F Y hi ⟨rfl,g0,g1,g5,hp⟩ next
  obtain ⟨x,hx⟩:∃ x,l[i]? = some x:=⟨_,List.getElem?_eq_getElem hi⟩
  obtain ⟨g,a1,a2,a3,a4,e1,-⟩:=eM h ia hx
  have hlt:=dR hi
  have hadd:=bU i (by omega)
  rw [aG]
  by_cases hxs:x.name = s
  ·have hs:=gX hxs
   simp only [KP,Ax.loadAt,↓reduceIte,reduceEqDiff,reduceLT,reduceCtorEq,reduceNeg,h.cK,h.bE,g0,g1,g5,la,hlt,e1,hs]
   rw [show fF l s = some i from iK (i:=i) (x:=x) (fun j y hj hy=>decide_eq_false (hp j y hj hy)) hx (decide_eq_true hxs)]
   exact rfl
  ·have hs:=gB hxs
   simp only [KP,Ax.loadAt,↓reduceIte,reduceEqDiff,reduceLT,reduceCtorEq,reduceNeg,h.cK,h.bE,g0,g1,g5,la,hlt,e1,hs,hadd]
   refine next _ _ ⟨rfl,(iZ (by simp +decide only [GS,g0,g1,and_self]) (fun j y hj hy=>?_))⟩
   rcases Nat.lt_or_ge j i with g | g
   ·exact hp j y g hy
   ·obtain rfl:j = i:=by omega
    rw [hx] at hy; cases hy; exact hxs
 ·rintro F Y ⟨rfl,g0,g1,g5,hp⟩
  have hlt:=dS (Nat.lt_irrefl l.length)
  rw [aG]
  simp only [KP,↓reduceIte,reduceEqDiff,reduceLT,reduceCtorEq,reduceNeg,g0,g5,la,hlt]
  rw [show fF l s = none from gF fun x hx=>by
   obtain ⟨j,hj,e⟩:=List.getElem_of_mem hx
   exact decide_eq_false (hp j x hj (by rw [List.getElem?_eq_getElem hj,e]))]
  exact rfl
theorem Sl (h:bM E) {a:V} {l:List aF} {s:aM} (ha:LS cV 37 Z a l) (hsm:l.length <= 4294967296):KC E 31 [a,.str s] Z ((.int .i64 (idx (fF l s)))) Z:=dA fun _=>XH h ha hsm
theorem kM {o:Option Nat}:decide ((0:Int) <= idx o) = o.isSome:=by
 cases o with
 | none=>rfl
 | some i=>exact decide_eq_true (by simp only [idx]; omega)
theorem B4 {o:Option Nat}:decide (idx o < (0:Int)) = o.isNone:=by
 cases o with
 | none=>rfl
 | some i=>exact decide_eq_false (by simp only [idx]; omega)
theorem b_ {α:Type} {p:α -> Bool}:∀ {l:List α},(bF p l).isSome = l.any p
 | []=>rfl
 | x :: l=>by
  rw [bF,List.any_cons]
  by_cases hx:p x = true
  ·rw [if_pos hx,hx]; rfl
  ·rw [if_neg hx,Option.isSome_map,b_]; simp [hx]
theorem any_eq {l:List aM} {s:aM}:(l.any fun x=>decide (x = s)) = decide (s ∈ l):=by
 rw [Bool.eq_iff_iff,List.any_eq_true,decide_eq_true_eq]
 constructor
 ·rintro ⟨x,hx,e⟩; rw [decide_eq_true_eq] at e; subst e; exact hx
 ·intro hx; exact ⟨s,hx,by simp⟩
theorem Qx (h:bM E) {a:V} {l:List aF} {s:aM} (ha:LS cV 37 Z a l) (ho:∀ x ∈ l,x.outs.length <= 4294967296) (hsm:l.length <= 4294967296):aB E 38 [a,.str s] Z K = K (.int .i64 (idx (fA l s))) Z:=by
 refine aB.of ?_
 obtain ⟨a',ea,ia⟩:=dW h ha
 rw [aH h.hs38 h.sp38 h.fn38 h.md38 (args':=[a',.str s]) (by simp only [aX,ea,cL]),bD (by kernel_rfl)]
 simp only [aA,Tryz.f38,KP,↓reduceIte,reduceLT,reduceAdd,reduceNeg]
 have la:=cA h ia
 refine aQ (fun i F Y=>Y = [] /\ F.get 0 = a' /\ F.get 1 = .str s /\ F.get 5 = .int .i64 (i:Int) /\ ∀ j y,j < i -> l[j]? = some y -> s ∉ y.outs) l.length ?_ ?_ l.length 0 _ _ (by omega) ⟨rfl,(iZ (by simp +decide only [GS,and_self]) (fun j y hj=>by omega))⟩
 ·rintro i F Y hi ⟨rfl,g0,g1,g5,hp⟩ next
  obtain ⟨x,hx⟩:∃ x,l[i]? = some x:=⟨_,List.getElem?_eq_getElem hi⟩
  obtain ⟨g,a1,a2,a3,a4,e1,-,h2,-⟩:=eM h ia hx
  have kf:=fun (Y:Sg)=>rA (Z:=Y) h (s:=s) (h2.ls Y 9) (ho x (mem_of_getElem? hx))
  have hlt:=dR hi
  have hadd:=bU i (by omega)
  rw [aG]
  by_cases hxs:s ∈ x.outs
  ·have hs:(bF (fun y=>decide (y = s)) x.outs).isSome = true:=by rw [b_,any_eq]; exact decide_eq_true hxs
   simp only [KP,Ax.loadAt,↓reduceIte,reduceEqDiff,reduceLT,reduceCtorEq,reduceNeg,h.aS,h.bE,g0,g1,g5,la,hlt,e1,kf,kM,hs]
   rw [show fA l s = some i from iK (i:=i) (x:=x) (fun j y hj hy=>decide_eq_false (hp j y hj hy)) hx (decide_eq_true hxs)]
   exact rfl
  ·have hs:(bF (fun y=>decide (y = s)) x.outs).isSome = false:=by rw [b_,any_eq]; exact decide_eq_false hxs
   simp only [KP,Ax.loadAt,↓reduceIte,reduceEqDiff,reduceLT,reduceCtorEq,reduceNeg,h.aS,h.bE,g0,g1,g5,la,hlt,e1,kf,kM,hs,hadd]
   refine next _ _ ⟨rfl,(iZ (by simp +decide only [GS,g0,g1,and_self]) (fun j y hj hy=>?_))⟩
   rcases Nat.lt_or_ge j i with g | g
   ·exact hp j y g hy
   ·obtain rfl:j = i:=by omega
    rw [hx] at hy; cases hy; exact hxs
 ·rintro F Y ⟨rfl,g0,g1,g5,hp⟩
  have hlt:=dS (Nat.lt_irrefl l.length)
  rw [aG]
  simp only [KP,↓reduceIte,reduceEqDiff,reduceLT,reduceCtorEq,reduceNeg,g0,g5,la,hlt]
  rw [show fA l s = none from gF fun x hx=>by
   obtain ⟨j,hj,e⟩:=List.getElem_of_mem hx
   exact decide_eq_false (hp j x hj (by rw [List.getElem?_eq_getElem hj,e]))]
  exact rfl
theorem Jo (h:bM E) {a:V} {l:List aF} {s:aM} (ha:LS cV 37 Z a l) (ho:∀ x ∈ l,x.outs.length <= 4294967296) (hsm:l.length <= 4294967296):KC E 38 [a,.str s] Z ((.int .i64 (idx (fA l s)))) Z:=dA fun _=>Qx h ha ho hsm
end
end
section
section
variable {E:Env} {Z:Sg} {K:V -> Sg -> Prop}
theorem SX (h:bM E) {c:Nat}:aB E 178 [.int .u8 (c:Int)] Z K = K (.bool (sign c)) Z:=by
 refine aB.of ?_
 rw [aH h.V4 h.TL h.WQ h.Vd (args':=[.int .u8 (c:Int)]) (by simp only [aX,show aZ Z E.ty true (.int .u8 (c:Int)) = some (.int .u8 (c:Int)) from rfl]),bD (by kernel_rfl)]
 have hcut:(0 <= c /\ c <= 44) \/ (45 <= c /\ c <= 45) \/ (46 <= c /\ c <= 46) \/ (47 <= c /\ c <= 47) \/ (48 <= c /\ c <= 57) \/ (58 <= c /\ c <= 64) \/ (65 <= c /\ c <= 90) \/ (91 <= c /\ c <= 94) \/ (95 <= c /\ c <= 95) \/ (96 <= c /\ c <= 96) \/ (97 <= c /\ c <= 122) \/ (123 <= c /\ 123 <= c):=by omega
 rcases hcut with ⟨h1,h2⟩ | ⟨h1,h2⟩ | ⟨h1,h2⟩ | ⟨h1,h2⟩ | ⟨h1,h2⟩ | ⟨h1,h2⟩ | ⟨h1,h2⟩ | ⟨h1,h2⟩ | ⟨h1,h2⟩ | ⟨h1,h2⟩ | ⟨h1,h2⟩ | ⟨h1,h2⟩
 ·rw [show sign c = false from by unfold sign; simp; omega]
  have q0:decide ((97:Int) <= (c:Int)) = false:=decide_eq_false (by omega)
  have q2:decide ((65:Int) <= (c:Int)) = false:=decide_eq_false (by omega)
  have q4:decide ((48:Int) <= (c:Int)) = false:=decide_eq_false (by omega)
  have q6:decide ((c:Int) = 46) = false:=decide_eq_false (by omega)
  have q7:decide ((c:Int) = 95) = false:=decide_eq_false (by omega)
  have q8:decide ((c:Int) = 45) = false:=decide_eq_false (by omega)
  simp only [aA,Tryz.f178,KP,↓reduceIte,reduceEqDiff,reduceLT,reduceCtorEq,q0,q2,q4,q6,q7,q8]
  exact rfl
 ·rw [show sign c = true from by unfold sign; simp; omega]
  have q0:decide ((97:Int) <= (c:Int)) = false:=decide_eq_false (by omega)
  have q2:decide ((65:Int) <= (c:Int)) = false:=decide_eq_false (by omega)
  have q4:decide ((48:Int) <= (c:Int)) = false:=decide_eq_false (by omega)
  have q6:decide ((c:Int) = 46) = false:=decide_eq_false (by omega)
  have q7:decide ((c:Int) = 95) = false:=decide_eq_false (by omega)
  have q8:decide ((c:Int) = 45) = true:=decide_eq_true (by omega)
  simp only [aA,Tryz.f178,KP,↓reduceIte,reduceEqDiff,reduceLT,reduceCtorEq,q0,q2,q4,q6,q7,q8]
  exact rfl
 ·rw [show sign c = true from by unfold sign; simp; omega]
  have q0:decide ((97:Int) <= (c:Int)) = false:=decide_eq_false (by omega)
  have q2:decide ((65:Int) <= (c:Int)) = false:=decide_eq_false (by omega)
  have q4:decide ((48:Int) <= (c:Int)) = false:=decide_eq_false (by omega)
  have q6:decide ((c:Int) = 46) = true:=decide_eq_true (by omega)
  simp only [aA,Tryz.f178,KP,↓reduceIte,reduceEqDiff,reduceLT,reduceCtorEq,q0,q2,q4,q6]
  exact rfl
 ·rw [show sign c = false from by unfold sign; simp; omega]
  have q0:decide ((97:Int) <= (c:Int)) = false:=decide_eq_false (by omega)
  have q2:decide ((65:Int) <= (c:Int)) = false:=decide_eq_false (by omega)
  have q4:decide ((48:Int) <= (c:Int)) = false:=decide_eq_false (by omega)
  have q6:decide ((c:Int) = 46) = false:=decide_eq_false (by omega)
  have q7:decide ((c:Int) = 95) = false:=decide_eq_false (by omega)
  have q8:decide ((c:Int) = 45) = false:=decide_eq_false (by omega)
  simp only [aA,Tryz.f178,KP,↓reduceIte,reduceEqDiff,reduceLT,reduceCtorEq,q0,q2,q4,q6,q7,q8]
  exact rfl
 ·rw [show sign c = true from by unfold sign; simp; omega]
  have q0:decide ((97:Int) <= (c:Int)) = false:=decide_eq_false (by omega)
  have q2:decide ((65:Int) <= (c:Int)) = false:=decide_eq_false (by omega)
  have q4:decide ((48:Int) <= (c:Int)) = true:=decide_eq_true (by omega)
  have q5:decide ((c:Int) <= 57) = true:=decide_eq_true (by omega)
  simp only [aA,Tryz.f178,KP,↓reduceIte,reduceEqDiff,reduceLT,reduceCtorEq,q0,q2,q4,q5]
  exact rfl
 ·rw [show sign c = false from by unfold sign; simp; omega]
  have q0:decide ((97:Int) <= (c:Int)) = false:=decide_eq_false (by omega)
  have q2:decide ((65:Int) <= (c:Int)) = false:=decide_eq_false (by omega)
  have q4:decide ((48:Int) <= (c:Int)) = true:=decide_eq_true (by omega)
  have q5:decide ((c:Int) <= 57) = false:=decide_eq_false (by omega)
  have q6:decide ((c:Int) = 46) = false:=decide_eq_false (by omega)
  have q7:decide ((c:Int) = 95) = false:=decide_eq_false (by omega)
  have q8:decide ((c:Int) = 45) = false:=decide_eq_false (by omega)
  simp only [aA,Tryz.f178,KP,↓reduceIte,reduceEqDiff,reduceLT,reduceCtorEq,q0,q2,q4,q5,q6,q7,q8]
  exact rfl
 ·rw [show sign c = true from by unfold sign; simp; omega]
  have q0:decide ((97:Int) <= (c:Int)) = false:=decide_eq_false (by omega)
  have q2:decide ((65:Int) <= (c:Int)) = true:=decide_eq_true (by omega)
  have q3:decide ((c:Int) <= 90) = true:=decide_eq_true (by omega)
  simp only [aA,Tryz.f178,KP,↓reduceIte,reduceEqDiff,reduceLT,reduceCtorEq,q0,q2,q3]
  exact rfl
 ·rw [show sign c = false from by unfold sign; simp; omega]
  have q0:decide ((97:Int) <= (c:Int)) = false:=decide_eq_false (by omega)
  have q2:decide ((65:Int) <= (c:Int)) = true:=decide_eq_true (by omega)
  have q3:decide ((c:Int) <= 90) = false:=decide_eq_false (by omega)
  have q4:decide ((48:Int) <= (c:Int)) = true:=decide_eq_true (by omega)
  have q5:decide ((c:Int) <= 57) = false:=decide_eq_false (by omega)
  have q6:decide ((c:Int) = 46) = false:=decide_eq_false (by omega)
  have q7:decide ((c:Int) = 95) = false:=decide_eq_false (by omega)
  have q8:decide ((c:Int) = 45) = false:=decide_eq_false (by omega)
  simp only [aA,Tryz.f178,KP,↓reduceIte,reduceEqDiff,reduceLT,reduceCtorEq,q0,q2,q3,q4,q5,q6,q7,q8]
  exact rfl
 ·rw [show sign c = true from by unfold sign; simp; omega]
  have q0:decide ((97:Int) <= (c:Int)) = false:=decide_eq_false (by omega)
  have q2:decide ((65:Int) <= (c:Int)) = true:=decide_eq_true (by omega)
  have q3:decide ((c:Int) <= 90) = false:=decide_eq_false (by omega)
  have q4:decide ((48:Int) <= (c:Int)) = true:=decide_eq_true (by omega)
  have q5:decide ((c:Int) <= 57) = false:=decide_eq_false (by omega)
  have q6:decide ((c:Int) = 46) = false:=decide_eq_false (by omega)
  have q7:decide ((c:Int) = 95) = true:=decide_eq_true (by omega)
  simp only [aA,Tryz.f178,KP,↓reduceIte,reduceEqDiff,reduceLT,reduceCtorEq,q0,q2,q3,q4,q5,q6,q7]
  exact rfl
 ·rw [show sign c = false from by unfold sign; simp; omega]
  have q0:decide ((97:Int) <= (c:Int)) = false:=decide_eq_false (by omega)
  have q2:decide ((65:Int) <= (c:Int)) = true:=decide_eq_true (by omega)
  have q3:decide ((c:Int) <= 90) = false:=decide_eq_false (by omega)
  have q4:decide ((48:Int) <= (c:Int)) = true:=decide_eq_true (by omega)
  have q5:decide ((c:Int) <= 57) = false:=decide_eq_false (by omega)
  have q6:decide ((c:Int) = 46) = false:=decide_eq_false (by omega)
  have q7:decide ((c:Int) = 95) = false:=decide_eq_false (by omega)
  have q8:decide ((c:Int) = 45) = false:=decide_eq_false (by omega)
  simp only [aA,Tryz.f178,KP,↓reduceIte,reduceEqDiff,reduceLT,reduceCtorEq,q0,q2,q3,q4,q5,q6,q7,q8]
  exact rfl
 ·rw [show sign c = true from by unfold sign; simp; omega]
  have q0:decide ((97:Int) <= (c:Int)) = true:=decide_eq_true (by omega)
  have q1:decide ((c:Int) <= 122) = true:=decide_eq_true (by omega)
  simp only [aA,Tryz.f178,KP,↓reduceIte,reduceEqDiff,reduceLT,reduceCtorEq,q0,q1]
  exact rfl
 ·rw [show sign c = false from by unfold sign; simp; omega]
  have q0:decide ((97:Int) <= (c:Int)) = true:=decide_eq_true (by omega)
  have q1:decide ((c:Int) <= 122) = false:=decide_eq_false (by omega)
  have q2:decide ((65:Int) <= (c:Int)) = true:=decide_eq_true (by omega)
  have q3:decide ((c:Int) <= 90) = false:=decide_eq_false (by omega)
  have q4:decide ((48:Int) <= (c:Int)) = true:=decide_eq_true (by omega)
  have q5:decide ((c:Int) <= 57) = false:=decide_eq_false (by omega)
  have q6:decide ((c:Int) = 46) = false:=decide_eq_false (by omega)
  have q7:decide ((c:Int) = 95) = false:=decide_eq_false (by omega)
  have q8:decide ((c:Int) = 45) = false:=decide_eq_false (by omega)
  simp only [aA,Tryz.f178,KP,↓reduceIte,reduceEqDiff,reduceLT,reduceCtorEq,q0,q1,q2,q3,q4,q5,q6,q7,q8]
  exact rfl
theorem Sk (h:bM E) {c:Nat}:KC E 178 [.int .u8 (c:Int)] Z (.bool (sign c)) Z:=dA fun _=>SX h
theorem u_ (h:bM E) {v:V} {l:List aM} (ia:IS aJ v l) {b:Nat} (hb:b <= l.length):∃ w,(∀ Z,Ax.slice E Z 28 v none (some (.int .i64 (b:Int))) none = some w) /\ IS aJ w (l.take b):=by
 obtain ⟨w,h1,h2,-⟩:=Bq (lo:=none) (hi:=some (.int .i64 (b:Int))) (a:=0) (b:=b) h.aS rfl h.cK rfl ia (.inr rfl) (.inl ⟨rfl,rfl⟩) (Nat.zero_le _) hb
 exact ⟨w,h1,by simpa using h2⟩
theorem Bb:∀ {l:List aM} {i:Nat} {x:aM},l[i]? = some x -> x ∈ l.take i -> kD l = true
 | [],i,x,hx,_=>by cases hx
 | y :: l,0,x,_,h=>by simp at h
 | y :: l,i + 1,x,hx,h=>by
  have hx':l[i]? = some x:=hx
  rw [take_succ_cons,mem_cons] at h
  rw [kD]
  rcases h with h | h
  ·rw [decide_eq_true (h ▸ mem_of_getElem? hx')]; rfl
  ·rw [Bb hx' h]; simp
theorem yC:∀ {l:List aM},(∀ (i:Nat) (x:aM),l[i]? = some x -> x ∉ l.take i) -> kD l = false
 | [],_=>rfl
 | y :: l,h=>by
  rw [kD,yC fun i x hx hm=>h (i + 1) x hx (by rw [take_succ_cons]; exact mem_cons_of_mem _ hm)]
  rw [Bool.or_false]
  refine decide_eq_false fun hy=>?_
  obtain ⟨i,hi,e⟩:=List.getElem_of_mem hy
  exact h (i + 1) y (by rw [List.getElem?_cons_succ,List.getElem?_eq_getElem hi,e]) (by rw [take_succ_cons]; exact mem_cons_self ..)
theorem Qp (h:bM E) {a:V} {l:List aM} (ha:LS aJ 9 Z a l) (hsm:l.length <= 4294967296):aB E 106 [a] Z K = K (.bool (kD l)) Z:=by
 refine aB.of ?_
 obtain ⟨a',ea,ia⟩:=jM h ha
 rw [aH h.Wo h.T6 h.Xc h.Vw (args':=[a']) (by simp only [aX,ea]),bD (by kernel_rfl)]
 simp only [aA,Tryz.f106,KP,↓reduceIte,reduceLT]
 have la:=bK h ia
 have d4:=h.SJ
 simp only [aA,Tryz.f106,cutAt,Option.getD_some] at d4
 refine aQ (fun i F Y=>Y = [] /\ F.get 0 = a' /\ F.get 3 = .int .i64 (i:Int) /\ ∀ j y,j < i -> l[j]? = some y -> y ∉ l.take j) l.length ?_ ?_ l.length 0 _ _ (by omega) ⟨rfl,(kW (by simp +decide only [GS,and_self]) (fun j y hj=>by omega))⟩
 ·rintro i F Y hi ⟨rfl,g0,g3,hp⟩ next
  obtain ⟨x,hx⟩:∃ x,l[i]? = some x:=⟨_,List.getElem?_eq_getElem hi⟩
  obtain ⟨g,e1⟩:=fJ h ia hx
  obtain ⟨w,e2,iw⟩:=u_ h ia (Nat.le_of_lt hi)
  have hlt:=dR hi
  have hadd:=bU i (by omega)
  have kf:=fun (Y:Sg)=>rA (Z:=Y) h (s:=x) (iw.ls Y 9) (by rw [length_take]; omega)
  rw [aG]
  by_cases hm:x ∈ l.take i
  ·have hs:(bF (fun y=>decide (y = x)) (l.take i)).isSome = true:=by rw [b_,any_eq]; exact decide_eq_true hm
   simp only [KP,Ax.loadAt,↓reduceIte,reduceEqDiff,reduceLT,reduceCtorEq,h.cK,g0,g3,la,hlt,bI d4,cB,e1,e2,kf,kM,hs]
   rw [Bb hx hm]
   exact rfl
  ·have hs:(bF (fun y=>decide (y = x)) (l.take i)).isSome = false:=by rw [b_,any_eq]; exact decide_eq_false hm
   simp only [KP,Ax.loadAt,↓reduceIte,reduceEqDiff,reduceLT,reduceCtorEq,h.cK,g0,g3,la,hlt,bI d4,cB,e1,e2,kf,kM,hs,hadd]
   refine next _ _ ⟨rfl,(kW (by simp +decide only [GS,g0,and_self]) (fun j y hj hy=>?_))⟩
   rcases Nat.lt_or_ge j i with g | g
   ·exact hp j y g hy
   ·obtain rfl:j = i:=by omega
    rw [hx] at hy; cases hy; exact hm
 ·rintro F Y ⟨rfl,g0,g3,hp⟩
  have hlt:=dS (Nat.lt_irrefl l.length)
  rw [aG]
  simp only [KP,↓reduceIte,reduceEqDiff,reduceLT,reduceCtorEq,g0,g3,la,hlt]
  rw [yC fun i x hx=>hp i x (List.getElem?_eq_some_iff.1 hx).1 hx]
  exact rfl
theorem EA (h:bM E) {a:V} {l:List aM} (ha:LS aJ 9 Z a l) (hsm:l.length <= 4294967296):KC E 106 [a] Z (.bool (kD l)) Z:=dA fun _=>Qp h ha hsm
end
end
section
section
variable {E:Env} {Z:Sg} {K:V -> Sg -> Prop}
theorem min2 (k:IntKind) (a b:Int):iT false k a [.int k b] = some (if b < a then b else a):=rfl
def kH (x:Step) (A B:Int):Bool:=decide ((x.args.length:Int) = A) && (decide ((x.lits.length:Int) = B) && ((!decide (x.op = 8) || decide (x.lits.head? ≠ some [])) && (decide (0 <= x.n) && (decide (x.n <= 2000) && (decide (x.op = 9) || decide (x.n = 0))))))
theorem RZ (h:bM E) {x:Step} {a b:V} (ia:IS aJ a x.args) (ib:IS aJ b x.lits) {A B:Int} (h8:x.op = 8 -> (x.lits.length:Int) = B -> x.lits ≠ []) (F:FT) (g1:F.get 1 = .ref 0 0) (g3:F.get 3 = .int .i64 A) (g4:F.get 4 = .int .i64 B) (hk:K (.bool (kH x A B)) [.cells 75 [.str x.out,.int .i64 x.op,a,b,.int .i64 x.n] true]) :
  R E (cutAt [1,1,1,1] (aA Tryz.f143).code) [] ⟨85,F⟩ [.cells 75 [.str x.out,.int .i64 x.op,a,b,.int .i64 x.n] true] (lT E (aA Tryz.f143).results K):=by
 have la:=bK h ia
 have lb:=bK h ib
 unfold kH at hk
 by_cases p1:(x.args.length:Int) = A
 case neg=>
  have q1:decide ((x.args.length:Int) = A) = false:=decide_eq_false p1
  rw [q1] at hk
  simp only [aA,Tryz.f143,KP,Ax.loadAt,↓reduceIte,reduceEqDiff,reduceLT,reduceCtorEq,h.aS,h.cP,cutAt,g1,g3,la,q1]
  exact hk
 have q1:decide ((x.args.length:Int) = A) = true:=decide_eq_true p1
 by_cases p2:(x.lits.length:Int) = B
 case neg=>
  have q2:decide ((x.lits.length:Int) = B) = false:=decide_eq_false p2
  rw [q1,q2] at hk
  simp only [aA,Tryz.f143,KP,Ax.loadAt,↓reduceIte,reduceEqDiff,reduceLT,reduceCtorEq,h.aS,h.cP,cutAt,g1,g3,g4,la,lb,q1,q2]
  exact hk
 have q2:decide ((x.lits.length:Int) = B) = true:=decide_eq_true p2
 have rest:∀ (q3:(!decide (x.op = 8) || decide (x.lits.head? ≠ some [])) = true) (e:x.op = 8 -> ∃ g y,indexAddr E 28 b (.int .i64 0) = some (.dB g [.str y]) /\ Ax.seq y [] = false),R E (cutAt [1,1,1,1] (aA Tryz.f143).code) [] ⟨85,F⟩ [.cells 75 [.str x.out,.int .i64 x.op,a,b,.int .i64 x.n] true] (lT E (aA Tryz.f143).results K):=by
  intro q3 e
  rw [q1,q2,q3] at hk
  have tail:∀ (c8:Bool),decide (x.op = 8) = c8 -> (c8 = true -> ∃ g y,indexAddr E 28 b (.int .i64 0) = some (.dB g [.str y]) /\ Ax.seq y [] = false) -> R E (cutAt [1,1,1,1] (aA Tryz.f143).code) [] ⟨85,F⟩ [.cells 75 [.str x.out,.int .i64 x.op,a,b,.int .i64 x.n] true] (lT E (aA Tryz.f143).results K):=by
   intro c8 hc8 e
   by_cases p4:0 <= x.n
   case neg=>
    have q4:decide (0 <= x.n) = false:=decide_eq_false p4
    rw [q4] at hk
    cases c8 with
    | false=>
     simp only [aA,Tryz.f143,KP,Ax.loadAt,↓reduceIte,reduceEqDiff,reduceLT,reduceCtorEq,h.pM,h.aS,h.cP,cutAt,g1,g3,g4,la,lb,q1,q2,hc8,q4]
     exact hk
    | true=>
     obtain ⟨g,y,e1,e2⟩:=e rfl
     simp only [aA,Tryz.f143,KP,Ax.loadAt,↓reduceIte,reduceEqDiff,reduceLT,reduceCtorEq,h.pM,h.cK,h.aS,h.cP,kP,cutAt,g1,g3,g4,la,lb,q1,q2,hc8,q4,e1,e2]
     exact hk
   have q4:decide (0 <= x.n) = true:=decide_eq_true p4
   by_cases p5:x.n <= 2000
   case neg=>
    have q5:decide (x.n <= 2000) = false:=decide_eq_false p5
    rw [q4,q5] at hk
    cases c8 with
    | false=>
     simp only [aA,Tryz.f143,KP,Ax.loadAt,↓reduceIte,reduceEqDiff,reduceLT,reduceCtorEq,h.pM,h.aS,h.cP,cutAt,g1,g3,g4,la,lb,q1,q2,hc8,q4,q5]
     exact hk
    | true=>
     obtain ⟨g,y,e1,e2⟩:=e rfl
     simp only [aA,Tryz.f143,KP,Ax.loadAt,↓reduceIte,reduceEqDiff,reduceLT,reduceCtorEq,h.pM,h.cK,h.aS,h.cP,kP,cutAt,g1,g3,g4,la,lb,q1,q2,hc8,q4,q5,e1,e2]
     exact hk
   have q5:decide (x.n <= 2000) = true:=decide_eq_true p5
   rw [q4,q5] at hk
   by_cases p9:x.op = 9
   ·have q9:decide (x.op = 9) = true:=decide_eq_true p9
    have q8:decide (x.op = 8) = false:=decide_eq_false (by omega)
    rw [q9] at hk
    simp only [aA,Tryz.f143,KP,Ax.loadAt,↓reduceIte,reduceEqDiff,reduceLT,reduceCtorEq,h.pM,h.aS,h.cP,cutAt,g1,g3,g4,la,lb,q1,q2,q8,q4,q5,q9]
    exact hk
   ·have q9:decide (x.op = 9) = false:=decide_eq_false p9
    by_cases p0:x.n = 0
    ·have q0:decide (x.n = 0) = true:=decide_eq_true p0
     rw [q9,q0] at hk
     cases c8 with
     | false=>
      simp only [aA,Tryz.f143,KP,Ax.loadAt,↓reduceIte,reduceEqDiff,reduceLT,reduceCtorEq,h.pM,h.aS,h.cP,cutAt,g1,g3,g4,la,lb,q1,q2,hc8,q4,q5,q9,q0]
      exact hk
     | true=>
      obtain ⟨g,y,e1,e2⟩:=e rfl
      simp only [aA,Tryz.f143,KP,Ax.loadAt,↓reduceIte,reduceEqDiff,reduceLT,reduceCtorEq,h.pM,h.cK,h.aS,h.cP,kP,cutAt,g1,g3,g4,la,lb,q1,q2,hc8,q4,q5,q9,q0,e1,e2]
      exact hk
    ·have q0:decide (x.n = 0) = false:=decide_eq_false p0
     rw [q9,q0] at hk
     cases c8 with
     | false=>
      simp only [aA,Tryz.f143,KP,Ax.loadAt,↓reduceIte,reduceEqDiff,reduceLT,reduceCtorEq,h.pM,h.aS,h.cP,cutAt,g1,g3,g4,la,lb,q1,q2,hc8,q4,q5,q9,q0]
      exact hk
     | true=>
      obtain ⟨g,y,e1,e2⟩:=e rfl
      simp only [aA,Tryz.f143,KP,Ax.loadAt,↓reduceIte,reduceEqDiff,reduceLT,reduceCtorEq,h.pM,h.cK,h.aS,h.cP,kP,cutAt,g1,g3,g4,la,lb,q1,q2,hc8,q4,q5,q9,q0,e1,e2]
      exact hk
  exact tail _ rfl fun hc=>e (of_decide_eq_true hc)
 by_cases p8:x.op = 8
 ·have hne:=h8 p8 p2
  obtain ⟨y,r,hyr⟩:=List.exists_cons_of_ne_nil hne
  obtain ⟨g,e1⟩:=fJ h ib (i:=0) (x:=y) (by rw [hyr]; rfl)
  by_cases hy:y = []
  ·have e2:=gX hy
   have q8:decide (x.op = 8) = true:=decide_eq_true p8
   have q3:decide (x.lits.head? ≠ some []) = false:=decide_eq_false (by rw [hyr,hy]; simp)
   rw [q1,q2,q8,q3] at hk
   have e1:indexAddr E 28 b (.int .i64 0) = some (.dB g [.str y]):=e1
   simp only [aA,Tryz.f143,KP,Ax.loadAt,↓reduceIte,reduceEqDiff,reduceLT,reduceCtorEq,h.pM,h.cK,h.aS,h.cP,kP,cutAt,g1,g3,g4,la,lb,q1,q2,q8,e1,e2]
   exact hk
  ·refine rest ?_ fun _=>⟨g,y,e1,gB hy⟩
   rw [show decide (x.lits.head? ≠ some []) = true from decide_eq_true (by rw [hyr]; simpa using hy),Bool.or_true]
 ·exact rest (by rw [show decide (x.op = 8) = false from decide_eq_false p8]; rfl) fun e=>absurd e p8
theorem O0 (h:bM E) {x:Step} {a b:V} (ia:IS aJ a x.args) (ib:IS aJ b x.lits) (hsm:x.lits.length <= 4294967296) {A B:Int} (h8:x.op = 8 -> (x.lits.length:Int) = B -> x.lits ≠ []) (F:FT) (g1:F.get 1 = .ref 0 0) (g3:F.get 3 = .int .i64 A) (g4:F.get 4 = .int .i64 B) (g5:F.get 5 = .int .i64 0)
  (hk:K (.bool (x.lits.all (fun l=>decide (l.length <= 100)) && kH x A B)) [.cells 75 [.str x.out,.int .i64 x.op,a,b,.int .i64 x.n] true]) :
  R E (.loop (cutAt [1,1,1,0,1,2,2] (aA Tryz.f143).code)) [.blk 1,.k (cutAt [1,1,1,1] (aA Tryz.f143).code)] ⟨85,F⟩ [.cells 75 [.str x.out,.int .i64 x.op,a,b,.int .i64 x.n] true] (lT E (aA Tryz.f143).results K):=by
 have lb:=bK h ib
 have key:=fun F g1 g3 g4 hk=>RZ (K:=K) (A:=A) (B:=B) h ia ib h8 F g1 g3 g4 hk
 generalize cutAt [1,1,1,1] (aA Tryz.f143).code = C at key ⊢
 refine aQ (fun i F Y=>Y = [.cells 75 [.str x.out,.int .i64 x.op,a,b,.int .i64 x.n] true] /\ F.get 1 = .ref 0 0 /\ F.get 3 = .int .i64 A /\ F.get 4 = .int .i64 B /\ F.get 5 = .int .i64 (i:Int) /\ ∀ j y,j < i -> x.lits[j]? = some y -> y.length <= 100) x.lits.length ?_ ?_ x.lits.length 0 _ _ (by omega) ⟨rfl,g1,g3,g4,g5,fun j y hj=>by omega⟩
 ·rintro i F Y hi ⟨rfl,g1,g3,g4,g5,hp⟩ next
  obtain ⟨y,hy⟩:∃ y,x.lits[i]? = some y:=⟨_,List.getElem?_eq_getElem hi⟩
  obtain ⟨g,e1⟩:=fJ h ib hy
  have hlt:=dR hi
  have hadd:=bU i (by omega)
  rw [aG]
  by_cases hl:y.length <= 100
  ·have q:decide ((100:Int) < (y.length:Int)) = false:=decide_eq_false (by omega)
   simp only [aA,Tryz.f143,KP,Ax.loadAt,↓reduceIte,reduceEqDiff,reduceLT,reduceCtorEq,h.cK,h.aS,h.cP,fH h,cutAt,g1,g5,lb,hlt,e1,q,hadd]
   refine next _ _ ⟨rfl,(gP (by simp +decide only [GS,g1,g3,g4,and_self]) (fun j z hj hz=>?_))⟩
   rcases Nat.lt_or_ge j i with g | g
   ·exact hp j z g hz
   ·obtain rfl:j = i:=by omega
    rw [hy] at hz; cases hz; exact hl
  ·have q:decide ((100:Int) < (y.length:Int)) = true:=decide_eq_true (by omega)
   simp only [aA,Tryz.f143,KP,Ax.loadAt,↓reduceIte,reduceEqDiff,reduceLT,reduceCtorEq,h.cK,h.aS,h.cP,fH h,cutAt,g1,g5,lb,hlt,e1,q]
   rw [gK hy (decide_eq_false hl),Bool.false_and] at hk
   exact hk
 ·rintro F Y ⟨rfl,g1,g3,g4,g5,hp⟩
  have hlt:=dS (Nat.lt_irrefl x.lits.length)
  rw [aG]
  rw [zO fun j y _ hy=>decide_eq_true (hp j y (List.getElem?_eq_some_iff.1 hy).1 hy),Bool.true_and] at hk
  simp only [aA,Tryz.f143,KP,Ax.loadAt,↓reduceIte,reduceEqDiff,reduceLT,reduceCtorEq,h.aS,h.cP,cutAt,g1,g5,lb,hlt]
  exact key _ (by simp +decide only [GS,g1]) (by simp +decide only [GS,g3]) (by simp +decide only [GS,g4]) hk
theorem Pg {n:Nat}:decide ((n:Int) = (if (6:Int) < (n:Int) then 6 else (n:Int))) = decide (n <= 6):=by
 by_cases g:(6:Int) < (n:Int)
 ·rw [if_pos g,decide_eq_false (by omega),decide_eq_false (by omega)]
 ·rw [if_neg g,decide_eq_true rfl,decide_eq_true (by omega)]
theorem end_1 {x:Step} (e:x.op = 1):(x.lits.all (fun l=>decide (l.length <= 100)) && kH x 1 0) = bZ x:=by
 unfold kH bZ counts
 rw [e]
 skip
 generalize x.lits.all (fun l=>decide (l.length <= 100)) = L
 generalize x.args.length = n
 generalize x.lits.length = m
 generalize x.lits.head? = hd
 generalize x.n = c
 rw [Bool.eq_iff_iff]
 by_cases hh:hd = some []
 ·cases L <;> simp [hh] <;> omega
 ·cases L <;> simp [hh] <;> omega
theorem Xr {x:Step} (e:x.op = 2):(x.lits.all (fun l=>decide (l.length <= 100)) && kH x 1 0) = bZ x:=by
 unfold kH bZ counts
 rw [e]
 skip
 generalize x.lits.all (fun l=>decide (l.length <= 100)) = L
 generalize x.args.length = n
 generalize x.lits.length = m
 generalize x.lits.head? = hd
 generalize x.n = c
 rw [Bool.eq_iff_iff]
 by_cases hh:hd = some []
 ·cases L <;> simp [hh] <;> omega
 ·cases L <;> simp [hh] <;> omega
theorem Xq {x:Step} (e:x.op = 3):(x.lits.all (fun l=>decide (l.length <= 100)) && kH x 1 0) = bZ x:=by
 unfold kH bZ counts
 rw [e]
 skip
 generalize x.lits.all (fun l=>decide (l.length <= 100)) = L
 generalize x.args.length = n
 generalize x.lits.length = m
 generalize x.lits.head? = hd
 generalize x.n = c
 rw [Bool.eq_iff_iff]
 by_cases hh:hd = some []
 ·cases L <;> simp [hh] <;> omega
 ·cases L <;> simp [hh] <;> omega
theorem Xp {x:Step} (e:x.op = 4):(x.lits.all (fun l=>decide (l.length <= 100)) && kH x 1 0) = bZ x:=by
 unfold kH bZ counts
 rw [e]
 skip
 generalize x.lits.all (fun l=>decide (l.length <= 100)) = L
 generalize x.args.length = n
 generalize x.lits.length = m
 generalize x.lits.head? = hd
 generalize x.n = c
 rw [Bool.eq_iff_iff]
 by_cases hh:hd = some []
 ·cases L <;> simp [hh] <;> omega
 ·cases L <;> simp [hh] <;> omega
theorem Xk {x:Step} (e:x.op = 9):(x.lits.all (fun l=>decide (l.length <= 100)) && kH x 1 0) = bZ x:=by
 unfold kH bZ counts
 rw [e]
 skip
 generalize x.lits.all (fun l=>decide (l.length <= 100)) = L
 generalize x.args.length = n
 generalize x.lits.length = m
 generalize x.lits.head? = hd
 generalize x.n = c
 rw [Bool.eq_iff_iff]
 by_cases hh:hd = some []
 ·cases L <;> simp [hh] <;> omega
 ·cases L <;> simp [hh] <;> omega
theorem Xo {x:Step} (e:x.op = 5):(x.lits.all (fun l=>decide (l.length <= 100)) && kH x (if (6:Int) < (x.args.length:Int) then 6 else (x.args.length:Int)) 0) = bZ x:=by
 unfold kH bZ counts
 rw [e]
 rw [Pg]
 generalize x.lits.all (fun l=>decide (l.length <= 100)) = L
 generalize x.args.length = n
 generalize x.lits.length = m
 generalize x.lits.head? = hd
 generalize x.n = c
 rw [Bool.eq_iff_iff]
 by_cases hh:hd = some []
 ·cases L <;> simp [hh] <;> omega
 ·cases L <;> simp [hh] <;> omega
theorem Xn {x:Step} (e:x.op = 6):(x.lits.all (fun l=>decide (l.length <= 100)) && kH x 0 1) = bZ x:=by
 unfold kH bZ counts
 rw [e]
 skip
 generalize x.lits.all (fun l=>decide (l.length <= 100)) = L
 generalize x.args.length = n
 generalize x.lits.length = m
 generalize x.lits.head? = hd
 generalize x.n = c
 rw [Bool.eq_iff_iff]
 by_cases hh:hd = some []
 ·cases L <;> simp [hh] <;> omega
 ·cases L <;> simp [hh] <;> omega
theorem Xm {x:Step} (e:x.op = 7):(x.lits.all (fun l=>decide (l.length <= 100)) && kH x 1 1) = bZ x:=by
 unfold kH bZ counts
 rw [e]
 skip
 generalize x.lits.all (fun l=>decide (l.length <= 100)) = L
 generalize x.args.length = n
 generalize x.lits.length = m
 generalize x.lits.head? = hd
 generalize x.n = c
 rw [Bool.eq_iff_iff]
 by_cases hh:hd = some []
 ·cases L <;> simp [hh] <;> omega
 ·cases L <;> simp [hh] <;> omega
theorem Xl {x:Step} (e:x.op = 8):(x.lits.all (fun l=>decide (l.length <= 100)) && kH x 1 2) = bZ x:=by
 unfold kH bZ counts
 rw [e]
 skip
 generalize x.lits.all (fun l=>decide (l.length <= 100)) = L
 generalize x.args.length = n
 generalize x.lits.length = m
 generalize x.lits.head? = hd
 generalize x.n = c
 rw [Bool.eq_iff_iff]
 by_cases hh:hd = some []
 ·cases L <;> simp [hh] <;> omega
 ·cases L <;> simp [hh] <;> omega
theorem Le (h:bM E) {v:V} {x:Step} (hv:Lm v x) (hsm:x.lits.length <= 4294967296):aB E 143 [v] Z K = K (.bool (bZ x)) Z:=by
 refine aB.of ?_
 have ev:=hv.snap (E:=E) Z
 obtain ⟨a,b,rfl,ia,ib⟩:=hv
 have la:=bK h ia
 rw [aH h.Wf h.TX h.W4 h.Vn (args':=[.agg [.str x.out,.int .i64 x.op,a,b,.int .i64 x.n]]) (by simp only [aX,ev]),bD (by kernel_rfl)]
 have hoka:a.aW = true:=aI ia.bB
 have hokb:b.aW = true:=aI ib.bB
 by_cases hop:x.op = 1 \/ x.op = 2 \/ x.op = 3 \/ x.op = 4 \/ x.op = 9 \/ x.op = 5 \/ x.op = 6 \/ x.op = 7 \/ x.op = 8
 ·have key:=fun A B h8 F g1 g3 g4 g5 hk=>O0 (K:=fun v σ1=>match cT σ1 E.ty false v with
    | some v=>v = .bool (bZ x)
    | none=>False) h ia ib hsm (A:=A) (B:=B) h8 F g1 g3 g4 g5 hk
  generalize hC:cutAt [1,1,1,1] (aA Tryz.f143).code = C at key
  generalize hD:cutAt [1,1,1,0,1,2,2] (aA Tryz.f143).code = D at key
  have e1:(aA Tryz.f143).code = .seq (cutAt [0] (aA Tryz.f143).code) (.seq (cutAt [1,0] (aA Tryz.f143).code) (.seq (cutAt [1,1,0] (aA Tryz.f143).code) (.seq (.seq (cutAt [1,1,1,0,0] (aA Tryz.f143).code) (.block 1 (.loop D))) C))):=by rw [<- hC,<- hD]; rfl
  rw [e1]
  clear e1 hC hD
  rcases hop with e | e | e | e | e | e | e | e | e
  ·have q:∀ k:Int,decide (x.op = k) = decide ((1:Int) = k):=fun k=>by rw [e]
   simp only [aA,Tryz.f143,KP,Ax.loadAt,↓reduceIte,reduceEqDiff,reduceLT,reduceAdd,reduceCtorEq,h.pM,h.cP,cutAt,q,hoka,hokb]
   refine key 1 0 (fun e8 e9=>?_) _ ?_ ?_ ?_ ?_ ?_
   ·omega
   ·exact (by simp +decide only [GS])
   ·exact (by simp +decide only [GS])
   ·exact (by simp +decide only [GS])
   ·exact (by simp +decide only [GS])
   ·exact congrArg V.bool (end_1 e)
  ·have q:∀ k:Int,decide (x.op = k) = decide ((2:Int) = k):=fun k=>by rw [e]
   simp only [aA,Tryz.f143,KP,Ax.loadAt,↓reduceIte,reduceEqDiff,reduceLT,reduceAdd,reduceCtorEq,reduceEq,h.pM,h.cP,cutAt,q,hoka,hokb]
   refine key 1 0 (fun e8 e9=>?_) _ ?_ ?_ ?_ ?_ ?_
   ·omega
   ·exact (by simp +decide only [GS])
   ·exact (by simp +decide only [GS])
   ·exact (by simp +decide only [GS])
   ·exact (by simp +decide only [GS])
   ·exact congrArg V.bool (Xr e)
  ·have q:∀ k:Int,decide (x.op = k) = decide ((3:Int) = k):=fun k=>by rw [e]
   simp only [aA,Tryz.f143,KP,Ax.loadAt,↓reduceIte,reduceEqDiff,reduceLT,reduceAdd,reduceCtorEq,reduceEq,h.pM,h.cP,cutAt,q,hoka,hokb]
   refine key 1 0 (fun e8 e9=>?_) _ ?_ ?_ ?_ ?_ ?_
   ·omega
   ·exact (by simp +decide only [GS])
   ·exact (by simp +decide only [GS])
   ·exact (by simp +decide only [GS])
   ·exact (by simp +decide only [GS])
   ·exact congrArg V.bool (Xq e)
  ·have q:∀ k:Int,decide (x.op = k) = decide ((4:Int) = k):=fun k=>by rw [e]
   simp only [aA,Tryz.f143,KP,Ax.loadAt,↓reduceIte,reduceEqDiff,reduceLT,reduceAdd,reduceCtorEq,reduceEq,h.pM,h.cP,cutAt,q,hoka,hokb]
   refine key 1 0 (fun e8 e9=>?_) _ ?_ ?_ ?_ ?_ ?_
   ·omega
   ·exact (by simp +decide only [GS])
   ·exact (by simp +decide only [GS])
   ·exact (by simp +decide only [GS])
   ·exact (by simp +decide only [GS])
   ·exact congrArg V.bool (Xp e)
  ·have q:∀ k:Int,decide (x.op = k) = decide ((9:Int) = k):=fun k=>by rw [e]
   simp only [aA,Tryz.f143,KP,Ax.loadAt,↓reduceIte,reduceEqDiff,reduceLT,reduceAdd,reduceCtorEq,reduceEq,h.pM,h.cP,cutAt,q,hoka,hokb]
   refine key 1 0 (fun e8 e9=>?_) _ ?_ ?_ ?_ ?_ ?_
   ·omega
   ·exact (by simp +decide only [GS])
   ·exact (by simp +decide only [GS])
   ·exact (by simp +decide only [GS])
   ·exact (by simp +decide only [GS])
   ·exact congrArg V.bool (Xk e)
  ·have q:∀ k:Int,decide (x.op = k) = decide ((5:Int) = k):=fun k=>by rw [e]
   simp only [aA,Tryz.f143,KP,Ax.loadAt,↓reduceIte,reduceEqDiff,reduceLT,reduceAdd,reduceCtorEq,reduceEq,h.pM,h.aS,h.cP,cutAt,la,q,hoka,hokb,min2]
   refine key (if (6:Int) < (x.args.length:Int) then 6 else (x.args.length:Int)) 0 (fun e8 e9=>?_) _ ?_ ?_ ?_ ?_ ?_
   ·omega
   ·exact (by simp +decide only [GS])
   ·exact (by simp +decide only [GS])
   ·exact (by simp +decide only [GS])
   ·exact (by simp +decide only [GS])
   ·exact congrArg V.bool (Xo e)
  ·have q:∀ k:Int,decide (x.op = k) = decide ((6:Int) = k):=fun k=>by rw [e]
   simp only [aA,Tryz.f143,KP,Ax.loadAt,↓reduceIte,reduceEqDiff,reduceLT,reduceAdd,reduceCtorEq,reduceEq,h.pM,h.cP,cutAt,q,hoka,hokb]
   refine key 0 1 (fun e8 e9=>?_) _ ?_ ?_ ?_ ?_ ?_
   ·omega
   ·exact (by simp +decide only [GS])
   ·exact (by simp +decide only [GS])
   ·exact (by simp +decide only [GS])
   ·exact (by simp +decide only [GS])
   ·exact congrArg V.bool (Xn e)
  ·have q:∀ k:Int,decide (x.op = k) = decide ((7:Int) = k):=fun k=>by rw [e]
   simp only [aA,Tryz.f143,KP,Ax.loadAt,↓reduceIte,reduceEqDiff,reduceLT,reduceAdd,reduceCtorEq,reduceEq,h.pM,h.cP,cutAt,q,hoka,hokb]
   refine key 1 1 (fun e8 e9=>?_) _ ?_ ?_ ?_ ?_ ?_
   ·omega
   ·exact (by simp +decide only [GS])
   ·exact (by simp +decide only [GS])
   ·exact (by simp +decide only [GS])
   ·exact (by simp +decide only [GS])
   ·exact congrArg V.bool (Xm e)
  ·have q:∀ k:Int,decide (x.op = k) = decide ((8:Int) = k):=fun k=>by rw [e]
   simp only [aA,Tryz.f143,KP,Ax.loadAt,↓reduceIte,reduceEqDiff,reduceLT,reduceAdd,reduceCtorEq,reduceEq,h.pM,h.cP,cutAt,q,hoka,hokb]
   refine key 1 2 (fun e8 e9=>?_) _ ?_ ?_ ?_ ?_ ?_
   ·intro e0; rw [e0] at e9; simp at e9
   ·exact (by simp +decide only [GS])
   ·exact (by simp +decide only [GS])
   ·exact (by simp +decide only [GS])
   ·exact (by simp +decide only [GS])
   ·exact congrArg V.bool (Xl e)
 ·have q:∀ k:Int,(k = 1 \/ k = 2 \/ k = 3 \/ k = 4 \/ k = 9 \/ k = 5 \/ k = 6 \/ k = 7 \/ k = 8) -> decide (x.op = k) = false:=fun k hk=>decide_eq_false (fun e=>hop (by rw [e]; exact hk))
  have q1:=q 1 (by simp)
  have q2:=q 2 (by simp)
  have q3:=q 3 (by simp)
  have q4:=q 4 (by simp)
  have q5:=q 5 (by simp)
  have q6:=q 6 (by simp)
  have q7:=q 7 (by simp)
  have q8:=q 8 (by simp)
  have q9:=q 9 (by simp)
  simp only [aA,Tryz.f143,KP,Ax.loadAt,↓reduceIte,reduceEqDiff,reduceLT,reduceAdd,reduceCtorEq,h.pM,h.cP,hoka,hokb,q1,q2,q3,q4,q5,q6,q7,q8,q9]
  have e:bZ x = false:=by
   unfold bZ
   rw [decide_eq_false (by omega)]; rfl
  rw [e]
  exact rfl
theorem KG (h:bM E) {v:V} {x:Step} (hv:Lm v x) (hsm:x.lits.length <= 4294967296):KC E 143 [v] Z (.bool (bZ x)) Z:=dA fun _=>Le h hv hsm
end
end
section
section
variable {E:Env} {Z:Sg} {K:V -> Sg -> Prop}
def rU (l:List aM) (c:Nat):List aM:=if c = 47 then l ++ [[]] else l.set (l.length - 1) ((l[l.length - 1]?).getD [] ++ [c])
theorem yD (c:Nat):∀ s:aM,cE c s ≠ []
 | []=>by simp [cE]
 | a :: r=>by
  rw [cE]
  split
  ·simp
  ·split <;> simp
theorem vF {p:aM} {l:List aM} (hl:l ≠ []) (c:Nat):rU (p :: l) c = p :: rU l c:=by
 obtain ⟨x,r,rfl⟩:=List.exists_cons_of_ne_nil hl
 unfold rU
 split
 ·rfl
 ·simp
theorem sJ (c:Nat):∀ s:aM,cE 47 (s ++ [c]) = rU (cE 47 s) c
 | []=>by
  by_cases h:c = 47 <;> simp [cE,rU,h]
 | a :: r=>by
  have ih:=sJ c r
  rw [List.cons_append,cE,cE]
  by_cases h:a = 47
  ·rw [if_pos h,if_pos h,ih,vF (yD 47 r)]
  ·rw [if_neg h,if_neg h,ih]
   obtain ⟨p,ps,hp⟩:=List.exists_cons_of_ne_nil (yD 47 r)
   rw [hp]
   cases ps with
   | nil=>
    unfold rU
    by_cases hc:c = 47
    ·simp [hc]
    ·simp [hc]
   | cons q qs=>
    have e1:rU (p :: q :: qs) c = p :: rU (q :: qs) c:=vF (by simp) c
    have e2:rU ((a :: p) :: q :: qs) c = (a :: p) :: rU (q :: qs) c:=vF (by simp) c
    rw [e1]
    exact e2.symm
theorem qP (c:Nat):∀ s:aM,(cE c s).length <= s.length + 1
 | []=>Nat.le_refl _
 | a :: r=>by
  have ih:=qP c r
  rw [cE]
  split
  ·simp only [length_cons]; omega
  ·split
   ·rename_i h; rw [h] at ih; simp only [length_cons] at ih ⊢; omega
   ·simp
theorem sK {s:aM}:∀ {P:List aM},cE 47 s = P -> ∀ y ∈ P,y.length <= s.length:=by
 induction s with
 | nil=>intro P hP y hy; subst hP; simp [cE] at hy; subst hy; exact Nat.le_refl _
 | cons a r ih=>
  intro P hP y hy
  subst hP
  rw [cE] at hy
  split at hy
  ·rcases mem_cons.1 hy with rfl | hy
   ·simp
   ·have:=ih rfl y hy; simp only [length_cons]; omega
  ·split at hy
   ·rename_i p ps hp
    rcases mem_cons.1 hy with rfl | hy
    ·have:=ih hp p (mem_cons_self ..); simp only [length_cons]; omega
    ·have:=ih hp y (mem_cons_of_mem _ hy); simp only [length_cons]; omega
   ·simp at hy; subst hy; simp
theorem CZ (n:Nat) (h0:0 < n) (h:n < 9223372036854775807):wr .i64 ((n:Int) - 1) = ((n - 1:Nat):Int):=by
 rw [yB,if_pos]
 ·omega
 ·have h1:lo .i64 = -9223372036854775808:=rfl
  have h2:hi .i64 = 9223372036854775807:=rfl
  rw [h1,h2,Bool.and_eq_true,decide_eq_true_eq,decide_eq_true_eq]
  omega
theorem Jr (h:bM E) {s:aM} {i c:Nat} (hc:s[i]? = some c):Ax.index E 9 (.str s) (.int .i64 (i:Int)) = some (.int .u8 (c:Int)):=by
 have hneg:¬ ((i:Int) < 0):=by omega
 unfold Ax.index
 simp only [h.cK,hneg,if_false,Int.toNat_natCast,hc]
theorem J6 (h:bM E) {s:aM} {i c:Nat} (hc:s[i]? = some c):Ax.slice E Z 9 (.str s) (some (.int .i64 (i:Int))) (some (.int .i64 ((i + 1:Nat):Int))) none = some (.str [c]):=by
 have hi:=(List.getElem?_eq_some_iff.1 hc).1
 have hb:∀ n m:Nat,m <= n -> ∀ d,Ax.bound n (some (.int .i64 (m:Int))) d = some m:=fun n m hm d=>by
  unfold Ax.bound
  simp only []
  rw [if_pos (by simp only [Bool.and_eq_true,decide_eq_true_eq]; omega)]
  rfl
 unfold Ax.slice
 simp only [h.cK,Option.isSome_none,Bool.false_eq_true,if_false]
 rw [hb s.length (i + 1) hi]
 simp only []
 rw [hb (i + 1) i (by omega)]
 simp only []
 rw [show i + 1 - i = 1 by omega,List.drop_eq_getElem_cons hi]
 have:=(List.getElem?_eq_some_iff.1 hc).2
 rw [this]; rfl
theorem iM (s:aM):Ax.fill (fun j=>some (j * 1,1)) (gR 1 [V.str []]) [(0,V.str s)] = some [.str s]:=rfl
theorem Qw (h:bM E) {s:aM} (hsm:s.length <= 1000000000):aB E 177 [.str s] Z fun v σ'=>σ' = Z /\ jW aJ v (cE 47 s):=by
 rw [aH h.V5 h.TM h.WR h.Ve (args':=[.str s]) (by simp only [aX,cL]),bD (by kernel_rfl)]
 simp only [aA,Tryz.f177,KP,↓reduceIte,reduceLT,reduceLeDiff,reduceMul,h.cK,h.aS,kP,iM]
 have d7:=h.SD
 simp only [aA,Tryz.f177,cutAt,Option.getD_some] at d7
 refine aQ (fun i F Y=>F.get 0 = .str s /\ F.get 4 = .int .i64 (i:Int) /\ ∃ w,F.get 3 = w /\ bH aJ 9 Y w (cE 47 (s.take i))) s.length ?_ ?_ s.length 0 _ _ (by omega) (kW (by simp +decide only [GS,and_self]) ⟨.sl 0 0 1 none,(by simp +decide only [GS]),.inr ⟨0,[[.str []]],true,rfl,rfl,.one rfl⟩⟩)
 ·rintro i F Y hi ⟨g0,g4,w,g3,ow⟩ next
  obtain ⟨c,hc⟩:∃ c,s[i]? = some c:=⟨_,List.getElem?_eq_getElem hi⟩
  have e1:=Jr h hc
  have hlt:=dR hi
  have hadd:=bU i (by omega)
  have htk:s.take (i + 1) = s.take i ++ [c]:=by rw [take_add_one,hc]; rfl
  have hln:=qP 47 (s.take i)
  have hln2:(s.take i).length <= s.length:=by rw [length_take]; omega
  rw [aG]
  by_cases h47:c = 47
  ·have q:decide ((c:Int) = 47) = true:=decide_eq_true (by omega)
   obtain ⟨w',τ',ha,ow',-,-,-⟩:=i_ (ats:=#[28,28]) (x:=.sl Y.length 0 1 none) (m:=[[]]) (new:=[[.str []]]) h.aS rfl h.cK rfl (by decide) (gI h) rfl (ow.app [.cells 9 [.str []] true]) (jT rfl) (.one rfl) (dX (b:=1000000002) (by decide) (by simp only [length_cons,length_nil]; omega))
   simp only [KP,↓reduceIte,reduceEqDiff,reduceLT,reduceLeDiff,reduceMul,reduceCtorEq,h.cK,h.aS,fH h,kP,g0,g3,g4,hlt,e1,q,iM,ha,hadd]
   refine next _ _ (kW (by simp +decide only [GS,g0,and_self]) ⟨w',(by simp +decide only [GS]),?_⟩)
   rw [htk,sJ,rU,if_pos h47]
   exact ow'
  ·have q:decide ((c:Int) = 47) = false:=decide_eq_false (by omega)
   have hpos:0 < (cE 47 (s.take i)).length:=List.length_pos_iff.2 (yD 47 _)
   generalize hP:cE 47 (s.take i) = P at *
   obtain ⟨y,hy⟩:∃ y,P[P.length - 1]? = some y:=⟨_,List.getElem?_eq_getElem (by omega)⟩
   have hyl:y.length <= s.length:=by
    have:=sK hP y (mem_of_getElem? hy)
    omega
   obtain ⟨b,e2,-,τ',e3,ow',-,-⟩:=J0 (u:=.str (y ++ [c])) (y:=y ++ [c]) h.aS rfl h.cK rfl ow (i:=P.length - 1) (by omega) rfl rfl
   obtain ⟨p,r,e4,e5,-,e6,-⟩:=DQ (Z:=Y) h.aS rfl h.cK rfl ow.ls hy
   have e6:=e6 rfl (by decide)
   rw [e2] at e4
   cases e4
   rw [show r = [.str y] from e5] at e6
   have e6:loadAt E Y 9 (.ref b ((P.length - 1) * 1)) = some (.str y):=e6
   have e3:storeAt E Y 9 (.ref b ((P.length - 1) * 1)) (.str (y ++ [c])) = some τ':=e3
   have e2:indexAddr E 28 w (.int .i64 ((P.length - 1:Nat):Int)) = some (.ref b ((P.length - 1) * 1)):=e2
   have lw:∀ Z,lenOf E Z 28 w = some P.length:=fun Z=>by
    rcases ow with ⟨rfl,rfl⟩ | ⟨b,rs,ex,rfl,-⟩
    ·simp at hpos
    ·unfold lenOf; rw [h.aS]
   have hdn:=CZ P.length hpos (by omega)
   have hsl:=fun Z=>J6 (Z:=Z) h hc
   have hcat:decide (y.length <= 9223372036854775806) = true:=decide_eq_true (by omega)
   simp only [KP,↓reduceIte,reduceEqDiff,reduceLT,reduceLeDiff,reduceCtorEq,fH h,g0,g3,g4,hlt,e1,q,lw,hdn,bI d7,cB,e2,e6,hadd,hsl,hcat,e3]
   refine next _ _ ⟨?_,?_,w,?_,?_⟩
   ·exact (by simp +decide only [GS,g0])
   ·exact (by simp +decide only [GS])
   ·exact (by simp +decide only [GS,g3])
   rw [htk,sJ,hP,rU,if_neg h47,hy]
   exact ow'
 ·rintro F Y ⟨g0,g4,w,g3,ow⟩
  have hlt:=dS (Nat.lt_irrefl s.length)
  rw [aG]
  rw [take_of_length_le (Nat.le_refl _)] at ow
  obtain ⟨v',e1,hv⟩:=pO h.cK rfl (fun r x hr c hc=>by rw [show r = [.str x] from hr] at hc; cases hc with | head=>rfl | tail _ h=>cases h) ow
  simp only [KP,↓reduceIte,reduceEqDiff,reduceLT,reduceCtorEq,fH h,g0,g3,g4,hlt,e1]
  exact hv
end
end
section
section
variable {E:Env} {Z:Sg} {K:V -> Sg -> Prop}
theorem ML {s:aM} (h1:nW s = false) (h2:s.length <= 40):bL s = (cE 47 s).all qT:=by
 unfold bL; rw [h1,decide_eq_true h2]; simp
theorem yM {p:aM} (h:p = [] \/ p = [46] \/ p = [46,46]):qT p = false:=by
 unfold qT
 rcases h with rfl | rfl | rfl <;> simp
theorem HA {p:aM} (h1:p ≠ []) (h2:p ≠ [46]) (h3:p ≠ [46,46]):qT p = p.all sign:=by
 unfold qT; rw [decide_eq_false h1,decide_eq_false h2,decide_eq_false h3]; simp
theorem ND (h:bM E) {s:aM}:aB E 144 [.str s] Z K = K (.bool (bL s)) Z:=by
 refine aB.of ?_
 rw [aH h.We h.TW h.WZ h.Vm (args':=[.str s]) (by simp only [aX,cL]),bD (by kernel_rfl)]
 have ls:∀ Z,lenOf E Z 9 (.str s) = some s.length:=fun Z=>fH h
 by_cases h0:s = []
 ·subst h0
  simp only [aA,Tryz.f144,KP,↓reduceIte,reduceEqDiff,reduceLT,reduceCtorEq,Int.reduceLT,fH h]
  exact rfl
 have hl0:0 < s.length:=List.length_pos_iff.2 h0
 have q0:decide ((s.length:Int) < 1) = false:=decide_eq_false (by omega)
 by_cases h40:s.length <= 40
 case neg=>
  have q1:decide ((40:Int) < (s.length:Int)) = true:=decide_eq_true (by omega)
  simp only [aA,Tryz.f144,KP,↓reduceIte,reduceEqDiff,reduceLT,reduceCtorEq,fH h,q0,q1]
  show V.bool false = _
  unfold bL
  rw [decide_eq_false h40,Bool.and_false,Bool.false_and]
 have q1:decide ((40:Int) < (s.length:Int)) = false:=decide_eq_false (by omega)
 by_cases w3:s = [114,117,108,101]
 ·have e3:=gX w3
  simp only [aA,Tryz.f144,KP,↓reduceIte,reduceEqDiff,reduceLT,reduceCtorEq,fH h,Cl,q0,q1,e3]
  rw [w3]
  exact rfl
 have e3:=gB w3
 by_cases w4:s = [105,110]
 ·have e4:=gX w4
  simp only [aA,Tryz.f144,KP,↓reduceIte,reduceEqDiff,reduceLT,reduceCtorEq,fH h,Cl,EK,q0,q1,e3,e4]
  rw [w4]
  exact rfl
 have e4:=gB w4
 by_cases w5:s = [111,117,116]
 ·have e5:=gX w5
  simp only [aA,Tryz.f144,KP,↓reduceIte,reduceEqDiff,reduceLT,reduceCtorEq,fH h,Cl,EK,HZ,q0,q1,e3,e4,e5]
  rw [w5]
  exact rfl
 have e5:=gB w5
 by_cases w6:s = [97,102,116,101,114]
 ·have e6:=gX w6
  simp only [aA,Tryz.f144,KP,↓reduceIte,reduceEqDiff,reduceLT,reduceCtorEq,fH h,Cl,EK,HZ,Nt,q0,q1,e3,e4,e5,e6]
  rw [w6]
  exact rfl
 have e6:=gB w6
 have hsm:s.length <= 1000000000:=by omega
 have hr:nW s = false:=by unfold nW; rw [decide_eq_false w3,decide_eq_false w4,decide_eq_false w5,decide_eq_false w6]; rfl
 rw [ML hr h40]
 simp only [aA,Tryz.f144,KP,↓reduceIte,reduceEqDiff,reduceLT,reduceCtorEq,fH h,Cl,EK,HZ,Nt,q0,q1,e3,e4,e5,e6]
 refine aU (Qw h hsm) ?_
 rintro v σ' ⟨rfl,hv⟩
 have iv:=hv.is
 have la:=bK h iv
 have hPl:=qP 47 s
 have hPp:=sK (s:=s) rfl
 generalize cE 47 s = P at *
 simp only [KP,↓reduceIte,reduceLT]
 refine aQ (fun i F Y=>Y = [] /\ F.get 3 = v /\ F.get 4 = .int .i64 (i:Int) /\ ∀ j y,j < i -> P[j]? = some y -> qT y = true) P.length ?_ ?_ P.length 0 _ _ (by omega) ⟨rfl,(kW (by simp +decide only [GS,and_self]) (fun j y hj=>by omega))⟩
 ·rintro i F Y hi ⟨rfl,g3,g4,hp⟩ next
  obtain ⟨p,hpi⟩:∃ p,P[i]? = some p:=⟨_,List.getElem?_eq_getElem hi⟩
  have hpl:=hPp p (mem_of_getElem? hpi)
  obtain ⟨g,e1⟩:=fJ h iv hpi
  have hlt:=dR hi
  have hadd:=bU i (by omega)
  rw [aG]
  by_cases b1:p = []
  ·have s1:=gX b1
   rw [gK hpi (yM (.inl b1))]
   simp only [KP,Ax.loadAt,↓reduceIte,reduceEqDiff,reduceLT,h.cK,kP,g3,g4,la,hlt,e1,s1]
   exact rfl
  have s1:=gB b1
  by_cases b2:p = [46]
  ·have s2:=gX b2
   rw [gK hpi (yM (.inr (.inl b2)))]
   simp only [KP,Ax.loadAt,↓reduceIte,reduceEqDiff,reduceLT,h.cK,kP,KX,g3,g4,la,hlt,e1,s1,s2]
   exact rfl
  have s2:=gB b2
  by_cases b3:p = [46,46]
  ·have s3:=gX b3
   rw [gK hpi (yM (.inr (.inr b3)))]
   simp only [KP,Ax.loadAt,↓reduceIte,reduceEqDiff,reduceLT,h.cK,kP,KX,Qk,g3,g4,la,hlt,e1,s1,s2,s3]
   exact rfl
  have s3:=gB b3
  simp only [KP,Ax.loadAt,↓reduceIte,reduceEqDiff,reduceLT,h.cK,kP,KX,Qk,g3,g4,la,hlt,e1,s1,s2,s3]
  refine aQ (fun k F Y=>Y = [] /\ F.get 3 = v /\ F.get 4 = .int .i64 (i:Int) /\ F.get 5 = .int .i64 (k:Int) /\ ∀ j y,j < k -> p[j]? = some y -> sign y = true) p.length ?_ ?_ p.length 0 _ _ (by omega) ⟨rfl,(iZ (by simp +decide only [GS,g3,g4,and_self]) (fun j y hj=>by omega))⟩
  ·rintro k F Y hk ⟨rfl,g3,g4,g5,hq⟩ next2
   obtain ⟨c,hc⟩:∃ c,p[k]? = some c:=⟨_,List.getElem?_eq_getElem hk⟩
   have e2:=Jr h hc
   have hlt2:=dR hk
   have hadd2:=bU k (by omega)
   have kf:=fun (Y:Sg)=>Sk (Z:=Y) h (c:=c)
   rw [aG]
   by_cases hs:sign c = true
   ·simp only [KP,Ax.loadAt,↓reduceIte,reduceEqDiff,reduceLT,h.cK,fH h,g3,g4,g5,hlt2,e1,e2,kf,hs,hadd2]
    refine next2 _ _ ⟨rfl,(iZ (by simp +decide only [GS,g3,g4,and_self]) (fun j y hj hy=>?_))⟩
    rcases Nat.lt_or_ge j k with g | g
    ·exact hq j y g hy
    ·obtain rfl:j = k:=by omega
     rw [hc] at hy; cases hy; exact hs
   ·have hs:sign c = false:=by simpa using hs
    rw [gK hpi (by rw [HA b1 b2 b3]; exact gK hc hs)]
    simp only [KP,Ax.loadAt,↓reduceIte,reduceEqDiff,reduceLT,h.cK,fH h,g3,g4,g5,hlt2,e1,e2,kf,hs]
    exact rfl
  ·rintro F Y ⟨rfl,g3,g4,g5,hq⟩
   have hlt2:=dS (Nat.lt_irrefl p.length)
   rw [aG]
   simp only [KP,Ax.loadAt,↓reduceIte,reduceEqDiff,reduceLT,h.cK,fH h,g3,g4,g5,hlt2,e1,hadd]
   refine next _ _ ⟨rfl,(kW (by simp +decide only [GS,g3,and_self]) (fun j y hj hy=>?_))⟩
   rcases Nat.lt_or_ge j i with g | g
   ·exact hp j y g hy
   ·obtain rfl:j = i:=by omega
    rw [hpi] at hy; cases hy
    rw [HA b1 b2 b3]
    exact zO fun j y _ hy=>hq j y (List.getElem?_eq_some_iff.1 hy).1 hy
 ·rintro F Y ⟨rfl,g3,g4,hp⟩
  have hlt:=dS (Nat.lt_irrefl P.length)
  rw [aG]
  rw [zO fun j y _ hy=>hp j y (List.getElem?_eq_some_iff.1 hy).1 hy]
  simp only [KP,↓reduceIte,reduceEqDiff,reduceLT,g3,g4,la,hlt]
  exact rfl
theorem M4 (h:bM E) {s:aM}:KC E 144 [.str s] Z (.bool (bL s)) Z:=dA fun _=>ND h
end
end
section
section
variable {E:Env} {Z:Sg} {K:V -> Sg -> Prop}
theorem oO {f:V -> V -> Bool}:∀ {l:List V},(∀ x ∈ l,f x x = true) -> qH f l l = true
 | [],_=>rfl
 | x :: l,h=>by
  show (f x x && qH f l l) = true
  rw [h x (mem_cons_self ..),oO fun y hy=>h y (mem_cons_of_mem _ hy)]; rfl
theorem CA {f:List V -> List V -> Bool}:∀ {l:List (List V)},(∀ x ∈ l,f x x = true) -> qH f l l = true
 | [],_=>rfl
 | x :: l,h=>by
  show (f x x && qH f l l) = true
  rw [h x (mem_cons_self ..),CA fun y hy=>h y (mem_cons_of_mem _ hy)]; rfl
theorem Lu {α:Type} {L:Lay α} (n:Nat) (hL:∀ r x,L.P r x -> ∀ c ∈ r,r_ n c c = true) {v:V} {l:List α} (h:IS L v l):r_ (n + 1) v v = true:=by
 rcases h with ⟨rfl,-⟩ | ⟨g,rs,full,rfl,ha⟩
 ·rfl
 ·show (g == g && qH (qH (r_ n)) rs rs && full == full) = true
  rw [CA fun r hr=>?_]
  ·simp
  ·obtain ⟨x,-,hp⟩:=ha.mem hr
   exact oO (hL r x hp)
theorem vZ (n:Nat) (s:aM):r_ (n + 1) (.str s) (.str s) = true:=gX rfl
theorem Iq (n:Nat) (k:IntKind) (i:Int):r_ (n + 1) (.int k i) (.int k i) = true:=by
 show (decide (k = k) && decide (i = i)) = true
 simp
theorem bY {v:V} {l:List aM} (n:Nat) (h:IS aJ v l):r_ (n + 2) v v = true:=Lu (n + 1) (fun r x hr c hc=>by
 rw [show r = [.str x] from hr] at hc
 cases hc with
 | head=>exact vZ n x
 | tail _ h=>cases h) h
theorem nO {v:V} {l:List AxS.Step} (n:Nat) (h:IS eV v l):r_ (n + 3) v v = true:=Lu (n + 2) (fun r x hr c hc=>by
 obtain ⟨a,b,rfl,h1,h2⟩:=hr
 simp only [mem_cons,List.not_mem_nil,or_false] at hc
 rcases hc with rfl | rfl | rfl | rfl | rfl
 ·exact vZ (n + 1) _
 ·exact Iq (n + 1) _ _
 ·exact bY n h1
 ·exact bY n h2
 ·exact Iq (n + 1) _ _) h
theorem xV (h:bM E) {Y:Sg} {w v:V} {l m:List aM} (ow:bH aJ 9 Y w l) (iv:IS aJ v m) (hb:l.length + m.length <= 1000000000):∃ w' τ',Ax.append E Y #[28,28] w v = some (w',τ') /\ bH aJ 9 τ' w' (l ++ m) /\ Sp Y τ' w /\ Y.length <= τ'.length /\ ∀ b,aT w' = some b -> aT w = some b \/ Y.length <= b:=by
 obtain ⟨rs,e,ha⟩:=qD iv Y
 exact i_ h.aS rfl h.cK rfl (by decide) (gI h) rfl ow e ha (dX (b:=1000000000) (by decide) hb)
theorem ET (h:bM E) {Y:Sg} {w:V} {l:List aM} {s:aM} {ex:Bool} (ow:bH aJ 9 Y w l) (hb:l.length <= 1000000000):∃ w' τ',Ax.append E (Y ++ [.cells 9 [.str s] ex]) #[28,28] w (.sl Y.length 0 1 none) = some (w',τ') /\ bH aJ 9 τ' w' (l ++ [s]) /\ Sp (Y ++ [.cells 9 [.str s] ex]) τ' w /\ Y.length <= τ'.length:=by
 obtain ⟨w',τ',h1,h2,h3,h4,-⟩:=i_ (m:=[s]) (new:=[[.str s]]) h.aS rfl h.cK rfl (by decide) (gI h) rfl (ow.app [.cells 9 [.str s] ex]) (jT rfl) (.one rfl) (dX (b:=1000000001) (by decide) (by simp only [length_cons,length_nil]; omega))
 exact ⟨w',τ',h1,h2,h3,by simp only [length_append,length_cons,length_nil] at h4; omega⟩
theorem PK (h:bM E) {x:aF} {a b c d:V} (ia:IS aJ a x.ins) (ib:IS aJ b x.outs) (ic:IS aJ c x.after) (hsm:x.ins.length <= 100000000 /\ x.outs.length <= 100000000 /\ x.after.length <= 100000000) (F:FT) (g1:F.get 1 = .ref 0 0) (g2:F.get 2 = .bool false) :
  ∃ F' Y w,cC E (ev E 0) (opsOf (cutAt [1,0] (aA Tryz.f105).code)) ⟨64,F⟩ [.cells 37 [.str x.name,a,b,c,d] true] = some (⟨64,F'⟩,Y) /\ F'.get 1 = .ref 0 0 /\ F'.get 3 = w /\ Y[0]? = some (.cells 37 [.str x.name,a,b,c,d] true) /\ bH aJ 9 Y w (x.name :: (x.ins ++ (x.outs ++ x.after))) /\ aT w ≠ some 0:=by
 have o0:bH aJ 9 [.cells 37 [.str x.name,a,b,c,d] true,.cells 9 [.str x.name] true] (.sl 1 0 1 none) [x.name]:=.inr ⟨1,[[.str x.name]],true,rfl,rfl,.one rfl⟩
 obtain ⟨w1,τ1,ha1,o1,k1,n1,-⟩:=xV h o0 ia (by simp only [length_cons,length_nil]; omega)
 obtain ⟨w2,τ2,ha2,o2,k2,n2,-⟩:=xV h o1 ib (by simp only [length_append,length_cons,length_nil]; omega)
 obtain ⟨w3,τ3,ha3,o3,k3,n3,-⟩:=xV h o2 ic (by simp only [length_append,length_cons,length_nil]; omega)
 have b1:τ1[0]? = some (.cells 37 [.str x.name,a,b,c,d] true):=k1 0 _ rfl (by show some 1 ≠ some 0; simp)
 have nb:∀ {Y:Sg} {w:V} {l:List aM},Y[0]? = some (.cells 37 [.str x.name,a,b,c,d] true) -> bH aJ 9 Y w l -> aT w ≠ some 0:=by
  rintro Y w l hb (⟨rfl,-⟩ | ⟨b,rs,ex,rfl,hc,-⟩) e
  ·cases e
  ·cases e; rw [hb] at hc; cases hc
 have b2:τ2[0]? = some (.cells 37 [.str x.name,a,b,c,d] true):=k2 0 _ b1 (nb b1 o1)
 have b3:τ3[0]? = some (.cells 37 [.str x.name,a,b,c,d] true):=k3 0 _ b2 (nb b2 o2)
 have va:=bY 10 ia
 have vb:=bY 10 ib
 have vc:=bY 10 ic
 unfold cC
 rw [h.Q_,h.RV]
 simp only [aA,Tryz.f105,KP,Ax.loadAt,↓reduceIte,reduceEqDiff,reduceLT,reduceLeDiff,reduceAdd,reduceMul,reduceCtorEq,h.cK,h.aS,h.bE,opsOf,cutAt,Fz.lits,Fz.apps,gW,bJ,bW,kC,Ax.comp,Ax.last,g_,Ax.again,g1,iM,ha1,ha2,ha3,b1,b2,va,vb,vc]
 refine ⟨_,_,w3,rfl,(kW (by simp +decide only [GS,g1,and_self]) ⟨b3,?_,nb b3 o3⟩)⟩
 have e:[x.name] ++ x.ins ++ x.outs ++ x.after = x.name :: (x.ins ++ (x.outs ++ x.after)):=by simp
 rw [<- e]
 exact o3
theorem PJ (h:bM E) {x:aF} {a b c d:V} (id:IS eV d x.steps) {st:AxS.Step} {i:Nat} (hi:x.steps[i]? = some st) {Y:Sg} {w:V} {l:List aM} (b0:Y[0]? = some (.cells 37 [.str x.name,a,b,c,d] true)) (ow:bH aJ 9 Y w l) (nw:aT w ≠ some 0) (hsm:l.length <= 500000000 /\ st.args.length <= 100000000)
  (F:FT) (g1:F.get 1 = .ref 0 0) (g3:F.get 3 = w) (g4:F.get 4 = .int .i64 (i:Int)) :
  ∃ F' τ' w',cC E (ev E 0) (opsOf (cutAt [1,1,0,1,2,2,1,0,2,1] (aA Tryz.f105).code)) ⟨64,F⟩ Y = some (⟨64,F'⟩,τ') /\ F'.get 1 = .ref 0 0 /\ F'.get 3 = w' /\ F'.get 4 = .int .i64 (i:Int) /\ τ'[0]? = some (.cells 37 [.str x.name,a,b,c,d] true) /\ bH aJ 9 τ' w' (l ++ st.out :: st.args) /\ aT w' ≠ some 0:=by
 obtain ⟨g,p,q,e1,ip,iq⟩:=t_ h id hi
 obtain ⟨w1,τ1,ha1,o1,k1,n1⟩:=ET (s:=st.out) (ex:=true) h ow (by omega)
 obtain ⟨w2,τ2,ha2,o2,k2,n2,-⟩:=xV h o1 ip (by simp only [length_append,length_cons,length_nil]; omega)
 have b0':(Y ++ [O.cells 9 [.str st.out] true])[0]? = some (.cells 37 [.str x.name,a,b,c,d] true):=by rw [getElem?_append_left (List.getElem?_eq_some_iff.1 b0).1]; exact b0
 have nb:∀ {Y:Sg} {w:V} {l:List aM},Y[0]? = some (.cells 37 [.str x.name,a,b,c,d] true) -> bH aJ 9 Y w l -> aT w ≠ some 0:=by
  rintro Y w l hb (⟨rfl,-⟩ | ⟨b,rs,ex,rfl,hc,-⟩) e
  ·cases e
  ·cases e; rw [hb] at hc; cases hc
 have b1:τ1[0]? = some (.cells 37 [.str x.name,a,b,c,d] true):=k1 0 _ b0' nw
 have b2:τ2[0]? = some (.cells 37 [.str x.name,a,b,c,d] true):=k2 0 _ b1 (nb b1 o1)
 have va:=bY 10 ip
 have vd:=nO 9 id
 unfold cC
 rw [h.Q9,h.RU]
 simp only [aA,Tryz.f105,KP,Ax.loadAt,↓reduceIte,reduceEqDiff,reduceLT,reduceLeDiff,reduceAdd,reduceMul,reduceCtorEq,h.cK,h.aS,h.fE,h.bE,h.cP,opsOf,cutAt,Fz.lits,Fz.apps,gW,bJ,bW,kC,Ax.comp,Ax.last,g_,Ax.again,g1,g3,g4,iM,ha1,ha2,b0,b0',b1,e1,va,vd]
 refine ⟨_,_,w2,rfl,(iZ (by simp +decide only [GS,g1,g4,and_self]) ⟨b2,?_,nb b2 o2⟩)⟩
 have e:l ++ [st.out] ++ st.args = l ++ st.out :: st.args:=by simp
 rw [<- e]
 exact o2
theorem PM (h:bM E) {x:aF} {a b c d:V} (ia:IS aJ a x.ins) (ib:IS aJ b x.outs) (ic:IS aJ c x.after) (hsm:x.ins.length <= 100000000 /\ x.outs.length <= 100000000 /\ x.after.length <= 100000000) (F:FT) (g1:F.get 1 = .ref 0 0) (g2:F.get 2 = .bool false) {s:List kY} {Q:Ax.X -> Fr -> Sg -> Prop}
  (hk:∀ F' Y w,F'.get 1 = .ref 0 0 -> F'.get 3 = w -> Y[0]? = some (.cells 37 [.str x.name,a,b,c,d] true) -> bH aJ 9 Y w (x.name :: (x.ins ++ (x.outs ++ x.after))) -> aT w ≠ some 0 -> M E s .normal ⟨64,F'⟩ Y Q):R E (.region 1 (opsOf (cutAt [1,0] (aA Tryz.f105).code)) true) s ⟨64,F⟩ [.cells 37 [.str x.name,a,b,c,d] true] Q:=by
 obtain ⟨F',Y,w,hE,h1,h2,h3,h4,h5⟩:=PK h ia ib ic hsm F g1 g2 (d:=d)
 exact Eq.mpr (iI hE) (hk F' Y w h1 h2 h3 h4 h5)
theorem PL (h:bM E) {x:aF} {a b c d:V} (id:IS eV d x.steps) {st:AxS.Step} {i:Nat} (hi:x.steps[i]? = some st) {Y:Sg} {w:V} {l:List aM} (b0:Y[0]? = some (.cells 37 [.str x.name,a,b,c,d] true)) (ow:bH aJ 9 Y w l) (nw:aT w ≠ some 0) (hsm:l.length <= 500000000 /\ st.args.length <= 100000000)
  (F:FT) (g1:F.get 1 = .ref 0 0) (g3:F.get 3 = w) (g4:F.get 4 = .int .i64 (i:Int)) {s:List kY} {Q:Ax.X -> Fr -> Sg -> Prop}
  (hk:∀ F' τ' w',F'.get 1 = .ref 0 0 -> F'.get 3 = w' -> F'.get 4 = .int .i64 (i:Int) -> τ'[0]? = some (.cells 37 [.str x.name,a,b,c,d] true) -> bH aJ 9 τ' w' (l ++ st.out :: st.args) -> aT w' ≠ some 0 -> M E s .normal ⟨64,F'⟩ τ' Q) :
  R E (.region 7 (opsOf (cutAt [1,1,0,1,2,2,1,0,2,1] (aA Tryz.f105).code)) true) s ⟨64,F⟩ Y Q:=by
 obtain ⟨F',τ',w',hE,h1,h2,h3,h4,h5,h6⟩:=PJ h id hi b0 ow nw hsm F g1 g3 g4
 exact Eq.mpr (iI hE) (hk F' τ' w' h1 h2 h3 h4 h5 h6)
end
end
section
section
variable {E:Env} {Z:Sg} {K:V -> Sg -> Prop}
def kG (x:aF) (l:List AxS.Step):List aM:=x.name :: (x.ins ++ (x.outs ++ x.after)) ++ l.flatMap fun s=>s.out :: s.args
theorem PN (x:aF):kA x = (x.steps.all bZ && ((kG x x.steps).all bL && decide (0 < x.outs.length))):=by
 unfold kA kG
 rw [Bool.eq_iff_iff]
 simp only [Bool.and_eq_true,List.all_eq_true,decide_eq_true_eq,mem_append,mem_cons,List.mem_flatMap,List.length_pos_iff]
 constructor
 ·rintro ⟨⟨⟨⟨⟨h1,h2⟩,h3⟩,h4⟩,h5⟩,h6⟩
  refine ⟨fun s hs=>(h6 s hs).2,fun n hn=>?_,h2⟩
  rcases hn with (rfl | hn | hn | hn) | ⟨s,hs,rfl | hn⟩
  ·exact h1
  ·exact h3 n hn
  ·exact h4 n hn
  ·exact h5 n hn
  ·exact (h6 s hs).1.1
  ·exact (h6 s hs).1.2 n hn
 ·rintro ⟨h1,h2,h3⟩
  exact ⟨⟨⟨⟨⟨h2 _ (.inl (.inl rfl)),h3⟩,fun n hn=>h2 n (.inl (.inr (.inl hn)))⟩,fun n hn=>h2 n (.inl (.inr (.inr (.inl hn))))⟩,fun n hn=>h2 n (.inl (.inr (.inr (.inr hn))))⟩,
   fun s hs=>⟨⟨h2 _ (.inr ⟨s,hs,.inl rfl⟩),fun n hn=>h2 n (.inr ⟨s,hs,.inr hn⟩)⟩,h1 s hs⟩⟩
theorem w_ {x:aF} (hx:Small x):∀ l:List AxS.Step,l.length <= 14 -> (∀ s ∈ l,s.args.length <= 8) -> (kG x l).length <= 1000:=by
 intro l h1 h2
 have:∀ l:List AxS.Step,(∀ s ∈ l,s.args.length <= 8) -> (l.flatMap fun s=>s.out :: s.args).length <= 9 * l.length:=by
  intro l
  induction l with
  | nil=>intro _; simp
  | cons s l ih=>
   intro h
   have:=ih fun y hy=>h y (mem_cons_of_mem _ hy)
   have:=h s (mem_cons_self ..)
   simp only [List.flatMap_cons,length_append,length_cons]
   omega
 have:=this l h2
 have a1:=hx.ins
 have a2:=hx.outs
 have a3:=hx.after
 unfold kG
 simp only [length_append,length_cons]
 omega
theorem SU (h:bM E) {v:V} {x:aF} (hv:GR v x) (hx:Small x):aB E 105 [v] Z K = K (.bool (kA x)) Z:=by
 refine aB.of ?_
 have ev:=hv.snap (E:=E) Z
 obtain ⟨a,b,c,d,rfl,ia,ib,ic,id⟩:=hv
 have a1:=hx.ins
 have a2:=hx.outs
 have a3:=hx.after
 have a4:=hx.steps
 rw [aH h.Wq h.T7 h.Xd h.Vx (args':=[.agg [.str x.name,a,b,c,d]]) (by simp only [aX,ev]),bD (by kernel_rfl)]
 have ha:=aI ia.bB
 have hb:=aI ib.bB
 have hc:=aI ic.bB
 have hd:=aI id.bB
 have lb:=bK h ib
 have ld:=kV h id
 rw [PN]
 simp only [aA,Tryz.f105,KP,↓reduceIte,reduceLT,reduceAdd,h.bE,ha,hb,hc,hd]
 refine PM h ia ib ic (by omega) _ ?_ ?_ ?_
 ·exact (by simp +decide only [GS])
 ·exact (by simp +decide only [GS])
 intro F1 τ1 w1 g1 g3 b1 o1 n1
 simp only [KP,↓reduceIte,reduceLT]
 refine aQ (fun i F Y=>Y[0]? = some (.cells 37 [.str x.name,a,b,c,d] true) /\ F.get 1 = .ref 0 0 /\ F.get 4 = .int .i64 (i:Int) /\ (∃ w,F.get 3 = w /\ bH aJ 9 Y w (kG x (x.steps.take i)) /\ aT w ≠ some 0) /\ ∀ j y,j < i -> x.steps[j]? = some y -> bZ y = true) x.steps.length ?_ ?_ x.steps.length 0 _ _ (by omega) ⟨b1,(kW (by simp +decide only [GS,g1,and_self]) ⟨⟨w1,(by simp +decide only [GS,g3]),by simpa [kG] using o1,n1⟩,fun j y hj=>by omega⟩)⟩
 ·rintro i F Y hi ⟨b0,g1,g4,⟨w,g3,ow,nw⟩,hp⟩ next
  obtain ⟨st,hst⟩:∃ y,x.steps[i]? = some y:=⟨_,List.getElem?_eq_getElem hi⟩
  have hmem:=mem_of_getElem? hst
  obtain ⟨g,p,q,e1,ip,iq⟩:=t_ h id hst
  have hlt:=dR hi
  have hadd:=bU i (by omega)
  have hlits:=hx.lits st hmem
  have hargs:=hx.args st hmem
  have kf:=fun (Y:Sg)=>KG (Z:=Y) h (v:=.agg [.str st.out,.int .i64 st.op,p,q,.int .i64 st.n]) (x:=st) ⟨p,q,rfl,ip,iq⟩ (by omega)
  rw [aG]
  by_cases hm:bZ st = true
  ·simp only [KP,Ax.loadAt,↓reduceIte,reduceEqDiff,reduceLT,reduceAdd,reduceCtorEq,h.fE,h.bE,h.cP,g1,g4,b0,ld,hlt,e1,kf,hm]
   have hln:=w_ hx (x.steps.take i) (by rw [length_take]; omega) (fun s hs=>hx.args s (List.mem_of_mem_take hs))
   refine PL h id hst b0 ow nw (by omega) _ ?_ ?_ ?_ ?_
   ·exact (by simp +decide only [GS,g1])
   ·exact (by simp +decide only [GS,g3])
   ·exact (by simp +decide only [GS,g4])
   intro F2 τ2 w2 k1 k3 k4 b2 o2 n2
   simp only [KP,↓reduceIte,reduceLT,k4,hadd]
   refine next _ _ ⟨b2,(kW (by simp +decide only [GS,k1,and_self]) ⟨⟨w2,(by simp +decide only [GS,k3]),?_,n2⟩,fun j y hj hy=>?_⟩)⟩
   ·have e:kG x (x.steps.take (i + 1)) = kG x (x.steps.take i) ++ st.out :: st.args:=by
     rw [take_add_one,hst]; simp [kG]
    rw [e]; exact o2
   ·rcases Nat.lt_or_ge j i with g | g
    ·exact hp j y g hy
    ·obtain rfl:j = i:=by omega
     rw [hst] at hy; cases hy; exact hm
  ·have hm:bZ st = false:=by simpa using hm
   rw [gK hst hm,Bool.false_and]
   simp only [KP,Ax.loadAt,↓reduceIte,reduceEqDiff,reduceLT,reduceAdd,reduceCtorEq,h.fE,h.bE,h.cP,g1,g4,b0,ld,hlt,e1,kf,hm]
   exact rfl
 ·rintro F Y ⟨b0,g1,g4,⟨w,g3,ow,nw⟩,hp⟩
  have hlt:=dS (Nat.lt_irrefl x.steps.length)
  rw [aG]
  rw [zO fun j y _ hy=>hp j y (List.getElem?_eq_some_iff.1 hy).1 hy,Bool.true_and]
  rw [take_of_length_le (Nat.le_refl _)] at ow
  have hln:=w_ hx x.steps (by omega) hx.args
  generalize kG x x.steps = L at *
  have lw:∀ σ',(σ' = Y) -> lenOf E σ' 28 w = some L.length:=fun σ' e=>by subst e; exact pI h.aS rfl ow.ls
  have lw:=lw Y rfl
  simp only [KP,Ax.loadAt,↓reduceIte,reduceEqDiff,reduceLT,reduceCtorEq,h.fE,h.bE,g1,g4,b0,ld,hlt]
  refine aQ (fun i F σ1=>σ1 = Y /\ F.get 1 = .ref 0 0 /\ F.get 3 = w /\ F.get 5 = .int .i64 (i:Int) /\ ∀ j y,j < i -> L[j]? = some y -> bL y = true) L.length ?_ ?_ L.length 0 _ _ (by omega) ⟨rfl,(iZ (by simp +decide only [GS,g1,g3,and_self]) (fun j y hj=>by omega))⟩
  ·rintro i F σ1 hi ⟨rfl,g1,g3,g5,hq⟩ next
   obtain ⟨y,hy⟩:∃ y,L[i]? = some y:=⟨_,List.getElem?_eq_getElem hi⟩
   have hlt:=dR hi
   have hadd:=bU i (by omega)
   obtain ⟨p,r,e1,hr,-,e2,-⟩:=DQ (Z:=σ1) h.aS rfl h.cK rfl ow.ls hy
   have e2:=e2 rfl (by decide)
   rw [show r = [.str y] from hr] at e2
   have kf:=fun (Y:Sg)=>M4 (Z:=Y) h (s:=y)
   rw [aG]
   by_cases hm:bL y = true
   ·simp only [KP,↓reduceIte,reduceEqDiff,reduceLT,g3,g5,lw,hlt,e1,e2,kf,hm,hadd]
    refine next _ _ ⟨rfl,(iZ (by simp +decide only [GS,g1,g3,and_self]) (fun j z hj hz=>?_))⟩
    rcases Nat.lt_or_ge j i with g | g
    ·exact hq j z g hz
    ·obtain rfl:j = i:=by omega
     rw [hy] at hz; cases hz; exact hm
   ·have hm:bL y = false:=by simpa using hm
    rw [gK hy hm,Bool.false_and]
    simp only [KP,↓reduceIte,reduceEqDiff,reduceLT,g3,g5,lw,hlt,e1,e2,kf,hm]
    exact rfl
  ·rintro F σ1 ⟨rfl,g1,g3,g5,hq⟩
   have hlt:=dS (Nat.lt_irrefl L.length)
   rw [aG]
   rw [zO fun j y _ hy=>hq j y (List.getElem?_eq_some_iff.1 hy).1 hy,Bool.true_and]
   have q:decide ((0:Int) < (x.outs.length:Int)) = decide (0 < x.outs.length):=by
    by_cases g:0 < x.outs.length
    ·rw [decide_eq_true g,decide_eq_true (by omega)]
    ·rw [decide_eq_false g,decide_eq_false (by omega)]
   simp only [KP,Ax.loadAt,↓reduceIte,reduceEqDiff,reduceLT,reduceCtorEq,h.aS,h.bE,g1,g3,g5,lw,hlt,b0,lb,q]
   exact rfl
theorem Sh (h:bM E) {v:V} {x:aF} (hv:GR v x) (hx:Small x):KC E 105 [v] Z (.bool (kA x)) Z:=dA fun _=>SU h hv hx
end
end
section
section
variable {E:Env} {Z:Sg} {K:V -> Sg -> Prop}
theorem tE {α:Type} {p:α -> Bool} {l:List α}:(bF p l).isNone = !l.any p:=by
 rw [<- b_ (p:=p) (l:=l)]
 cases bF p l <;> rfl
theorem Jv {l:List aM} {s:aM} (h:s ∈ l):(bF (fun y=>decide (y = s)) l).isSome = true:=by rw [b_,any_eq]; exact decide_eq_true h
theorem Jw {l:List aM} {s:aM} (h:s ∉ l):(bF (fun y=>decide (y = s)) l).isSome = false:=by rw [b_,any_eq]; exact decide_eq_false h
theorem Nf {l:List aM} {s:aM} (h:s ∉ l):(bF (fun y=>decide (y = s)) l).isNone = true:=by rw [tE,any_eq,decide_eq_false h]; rfl
theorem Ng {l:List aM} {s:aM} (h:s ∈ l):(bF (fun y=>decide (y = s)) l).isNone = false:=by rw [tE,any_eq,decide_eq_true h]; rfl
theorem aR {Y:Sg} {x:O}:(Y ++ [x])[Y.length]? = some x:=by simp
theorem cU {Y:Sg} {x y:O}:(Y ++ [x]).set Y.length y = Y ++ [y]:=by simp
theorem aL {Y:Sg} {x y:O} {i:Nat} (h:Y[i]? = some y):(Y ++ [x])[i]? = some y:=by rw [getElem?_append_left (List.getElem?_eq_some_iff.1 h).1]; exact h
theorem j_ {Y:Sg} {w:V} {l:List aM} {k u:Nat} {cs:List V} (hb:Y[k]? = some (.cells u cs true)) (hu:u ≠ 9) (ow:bH aJ 9 Y w l):aT w ≠ some k:=by
 rcases ow with ⟨rfl,-⟩ | ⟨b,rs,ex,rfl,hc,-⟩
 ·intro e; cases e
 ·intro e; cases e; rw [hb] at hc; cases hc; exact hu rfl
theorem Mg (h:bM E) {x:aF} {a b c d w:V} {Y:Sg} {Ks:List aM} (ia:IS aJ a x.ins) (ib:IS aJ b x.outs) (hx:Small x) (hK:Ks.length <= 14) (b0:Y[0]? = some (.cells 37 [.str x.name,a,b,c,d] true)) (ow:bH aJ 9 Y w Ks) (F:FT) (g1:F.get 1 = .ref 0 0) (g3:F.get 3 = w)
  (hk:K (.int .i64 (if (x.outs.all fun o=>!decide (o ∈ x.ins) && decide (o ∈ Ks)) = true then 0 else 2)) Y):R E (cutAt [1,1,1,1] (aA Tryz.f60).code) [] ⟨139,F⟩ Y (lT E (aA Tryz.f60).results K):=by
 have a1:=hx.ins
 have a2:=hx.outs
 have lb:=bK h ib
 have d23:=h.Sy
 simp only [aA,Tryz.f60,cutAt,Option.getD_some] at d23
 simp only [aA,Tryz.f60,KP,↓reduceIte,reduceLT,cutAt]
 refine aQ (fun i F σ1=>σ1 = Y /\ F.get 1 = .ref 0 0 /\ F.get 3 = w /\ F.get 7 = .int .i64 (i:Int) /\ ∀ j y,j < i -> x.outs[j]? = some y -> y ∉ x.ins /\ y ∈ Ks) x.outs.length ?_ ?_ x.outs.length 0 _ _ (by omega) ⟨rfl,(iZ (by simp +decide only [GS,g1,g3,and_self]) (fun j y hj=>by omega))⟩
 ·rintro i F σ1 hi ⟨rfl,g1,g3,g7,hp⟩ next
  obtain ⟨y,hy⟩:∃ y,x.outs[i]? = some y:=⟨_,List.getElem?_eq_getElem hi⟩
  obtain ⟨g,e1⟩:=fJ h ib hy
  have hlt:=dR hi
  have hadd:=bU i (by omega)
  have k1:=rA (Z:=σ1) h (a:=a) (l:=x.ins) (s:=y) (ia.ls σ1 9) (by omega)
  have k2:=rA (Z:=σ1) h (a:=w) (l:=Ks) (s:=y) ow.ls (by omega)
  rw [aG]
  by_cases h1:y ∈ x.ins
  ·have s1:=Jv h1
   rw [if_neg (by rw [gK hy (by rw [decide_eq_true h1]; rfl)]; simp)] at hk
   simp only [KP,Ax.loadAt,↓reduceIte,reduceEqDiff,reduceLT,reduceCtorEq,h.cK,h.aS,h.bE,g1,g7,lb,hlt,b0,e1,k1,kM,s1,bI d23,cB]
   exact hk
  have s1:=Jw h1
  by_cases h2:y ∈ Ks
  ·have s2:=Ng h2
   simp only [KP,Ax.loadAt,↓reduceIte,reduceEqDiff,reduceLT,reduceCtorEq,h.cK,h.aS,h.bE,g1,g3,g7,lb,hlt,b0,e1,k1,k2,kM,B4,s1,s2,hadd,bI d23,cB]
   refine next _ _ ⟨rfl,(iZ (by simp +decide only [GS,g1,g3,and_self]) (fun j z hj hz=>?_))⟩
   rcases Nat.lt_or_ge j i with g | g
   ·exact hp j z g hz
   ·obtain rfl:j = i:=by omega
    rw [hy] at hz; cases hz; exact ⟨h1,h2⟩
  ·have s2:=Nf h2
   rw [if_neg (by rw [gK hy (by rw [decide_eq_false h2]; simp)]; simp)] at hk
   simp only [KP,Ax.loadAt,↓reduceIte,reduceEqDiff,reduceLT,reduceCtorEq,h.cK,h.aS,h.bE,g1,g3,g7,lb,hlt,b0,e1,k1,k2,kM,B4,s1,s2,bI d23,cB]
   exact hk
 ·rintro F σ1 ⟨rfl,g1,g3,g7,hp⟩
  have hlt:=dS (Nat.lt_irrefl x.outs.length)
  rw [aG]
  rw [if_pos (zO fun j y _ hy=>by
   obtain ⟨h1,h2⟩:=hp j y (List.getElem?_eq_some_iff.1 hy).1 hy
   rw [decide_eq_false h1,decide_eq_true h2]; rfl)] at hk
  simp only [KP,Ax.loadAt,↓reduceIte,reduceEqDiff,reduceLT,reduceCtorEq,h.aS,h.bE,g1,g7,lb,hlt,b0]
  exact hk
def LI (x:aF) (i:Nat) (s:AxS.Step):Prop:=s.out ∉ x.ins ++ (x.steps.take i).map Step.out /\ ∀ y ∈ s.args,y ∈ x.ins ++ (x.steps.take i).map Step.out
theorem sI:∀ (l:List AxS.Step) (known:List aM),gT known l = true ↔ ∀ i s,l[i]? = some s -> s.out ∉ known ++ (l.take i).map Step.out /\ ∀ y ∈ s.args,y ∈ known ++ (l.take i).map Step.out
 | [],known=>by simp [gT]
 | s :: l,known=>by
  rw [gT,Bool.and_eq_true,Bool.and_eq_true,sI l]
  simp only [Bool.not_eq_true',decide_eq_false_iff_not,List.all_eq_true,decide_eq_true_eq]
  constructor
  ·rintro ⟨⟨h1,h2⟩,h3⟩ i t ht
   cases i with
   | zero=>cases ht; simpa using ⟨h1,h2⟩
   | succ i=>have:=h3 i t ht; simpa using this
  ·intro h0
   refine ⟨by simpa using h0 0 s rfl,fun i t ht=>?_⟩
   have:=h0 (i + 1) t ht
   simpa using this
theorem Hv (h:bM E) {x:aF} {a b c d:V} (ia:IS aJ a x.ins) (ib:IS aJ b x.outs) (id:IS eV d x.steps) (hx:Small x) (F:FT) (g1:F.get 1 = .ref 0 0)
  (hk:∀ Y,K (.int .i64 (if gT x.ins x.steps = true /\ (x.outs.all fun o=>!decide (o ∈ x.ins) && decide (o ∈ x.steps.map Step.out)) = true then 0 else 2)) Y):R E (cutAt [1,1] (aA Tryz.f60).code) [] ⟨139,F⟩ [.cells 37 [.str x.name,a,b,c,d] true] (lT E (aA Tryz.f60).results K):=by
 have a1:=hx.ins
 have a4:=hx.steps
 have ld:=kV h id
 have fin:=fun Y w b0 ow F g1 g3 hk=>Mg (K:=K) h ia ib hx (c:=c) (d:=d) (w:=w) (Y:=Y) (Ks:=x.steps.map Step.out) (by rw [List.length_map]; omega) b0 ow F g1 g3 hk
 have d17:=h.Sz
 simp only [aA,Tryz.f60,cutAt,Option.getD_some] at d17
 rw [show cutAt [1,1] (aA Tryz.f60).code = .seq (cutAt [1,1,0] (aA Tryz.f60).code) (.seq (cutAt [1,1,1,0] (aA Tryz.f60).code) (cutAt [1,1,1,1] (aA Tryz.f60).code)) from rfl]
 generalize cutAt [1,1,1,1] (aA Tryz.f60).code = C at *
 simp only [aA,Tryz.f60,KP,↓reduceIte,reduceLT,cutAt]
 refine aQ (fun i F Y=>Y[0]? = some (.cells 37 [.str x.name,a,b,c,d] true) /\ F.get 1 = .ref 0 0 /\ F.get 4 = .int .i64 (i:Int) /\ (∃ w,F.get 3 = w /\ bH aJ 9 Y w ((x.steps.take i).map Step.out)) /\ ∀ j s,j < i -> x.steps[j]? = some s -> LI x j s) x.steps.length ?_ ?_ x.steps.length 0 _ _ (by omega) ⟨rfl,(kW (by simp +decide only [GS,g1,and_self]) ⟨⟨.aC,(by simp +decide only [GS]),.inl ⟨rfl,rfl⟩⟩,fun j y hj=>by omega⟩)⟩
 ·rintro i F Y hi ⟨b0,g1,g4,⟨w,g3,ow⟩,hp⟩ next
  obtain ⟨st,hst⟩:∃ y,x.steps[i]? = some y:=⟨_,List.getElem?_eq_getElem hi⟩
  have hmem:=mem_of_getElem? hst
  have a5:=hx.args st hmem
  obtain ⟨g,p,q,e1,ip,iq⟩:=t_ h id hst
  have hop:=aI ip.bB
  have hoq:=aI iq.bB
  have hlt:=dR hi
  have hadd:=bU i (by omega)
  have lp:=bK h ip
  have hKl:((x.steps.take i).map Step.out).length <= 14:=by rw [List.length_map,length_take]; omega
  have bx:(Y ++ [O.cells 75 [.str st.out,.int .i64 st.op,p,q,.int .i64 st.n] true])[Y.length]? = some (.cells 75 [.str st.out,.int .i64 st.op,p,q,.int .i64 st.n] true):=aR
  have b1:=aL (x:=O.cells 75 [.str st.out,.int .i64 st.op,p,q,.int .i64 st.n] true) b0
  have o1:=ow.app [O.cells 75 [.str st.out,.int .i64 st.op,p,q,.int .i64 st.n] true]
  have hbad:∀ Y,¬ LI x i st -> K (.int .i64 2) Y:=fun Y hn=>by
   have:=hk Y
   rwa [if_neg (fun e=>hn ((sI _ _).1 e.1 i st hst))] at this
  have k1:=rA (Z:=Y ++ [O.cells 75 [.str st.out,.int .i64 st.op,p,q,.int .i64 st.n] true]) h (a:=a) (l:=x.ins) (s:=st.out) (ia.ls _ 9) (by omega)
  have k2:=rA (Z:=Y ++ [O.cells 75 [.str st.out,.int .i64 st.op,p,q,.int .i64 st.n] true]) h (a:=w) (l:=(x.steps.take i).map Step.out) (s:=st.out) o1.ls (by omega)
  rw [aG]
  by_cases h1:st.out ∈ x.ins
  ·have s1:=Jv h1
   simp only [KP,Ax.loadAt,Ax.storeAt,↓reduceIte,reduceEqDiff,reduceLT,reduceAdd,reduceCtorEq,h.cK,h.aS,h.fE,h.bE,h.cP,g1,g4,ld,hlt,b0,e1,hop,hoq,aR,cU,b1,bx,k1,kM,s1]
   exact hbad _ fun e=>e.1 (List.mem_append_left _ h1)
  have s1:=Jw h1
  by_cases h2:st.out ∈ (x.steps.take i).map Step.out
  ·have s2:=Jv h2
   simp only [KP,Ax.loadAt,Ax.storeAt,↓reduceIte,reduceEqDiff,reduceLT,reduceAdd,reduceCtorEq,h.cK,h.aS,h.fE,h.bE,h.cP,g1,g3,g4,ld,hlt,b0,e1,hop,hoq,aR,cU,b1,bx,k1,k2,kM,s1,s2]
   exact hbad _ fun e=>e.1 (List.mem_append_right _ h2)
  have s2:=Jw h2
  simp only [KP,Ax.loadAt,Ax.storeAt,↓reduceIte,reduceEqDiff,reduceLT,reduceAdd,reduceCtorEq,h.cK,h.aS,h.fE,h.bE,h.cP,g1,g3,g4,ld,hlt,b0,e1,hop,hoq,aR,cU,b1,bx,k1,k2,kM,s1,s2]
  generalize hτ:Y ++ [O.cells 75 [.str st.out,.int .i64 st.op,p,q,.int .i64 st.n] true] = τ1 at *
  generalize Y.length = nx at *
  refine aQ (fun k F σ1=>σ1 = τ1 /\ F.get 1 = .ref 0 0 /\ F.get 3 = w /\ F.get 4 = .int .i64 (i:Int) /\ F.get 5 = .ref nx 0 /\ F.get 6 = .int .i64 (k:Int) /\ ∀ j y,j < k -> st.args[j]? = some y -> y ∈ x.ins ++ (x.steps.take i).map Step.out) st.args.length ?_ ?_ st.args.length 0 _ _ (by omega) ⟨rfl,(lY (by simp +decide only [GS,g1,g3,g4,and_self]) (fun j y hj=>by omega))⟩
  ·rintro k F σ1 hk2 ⟨rfl,g1,g3,g4,g5,g6,hq⟩ next2
   obtain ⟨y,hy⟩:∃ y,st.args[k]? = some y:=⟨_,List.getElem?_eq_getElem hk2⟩
   obtain ⟨g,e2⟩:=fJ h ip hy
   have hlt2:=dR hk2
   have hadd2:=bU k (by omega)
   have k3:=rA (Z:=σ1) h (a:=a) (l:=x.ins) (s:=y) (ia.ls _ 9) (by omega)
   have k4:=rA (Z:=σ1) h (a:=w) (l:=(x.steps.take i).map Step.out) (s:=y) o1.ls (by omega)
   rw [aG]
   by_cases h3:y ∈ x.ins
   ·have s3:=Ng h3
    simp only [KP,Ax.loadAt,↓reduceIte,reduceEqDiff,reduceLT,reduceCtorEq,h.cK,h.aS,h.bE,h.cP,g1,g5,g6,lp,hlt2,b1,bx,e2,k3,B4,s3,hadd2,bI d17,cB]
    refine next2 _ _ ⟨rfl,(lY (by simp +decide only [GS,g1,g3,g4,g5,and_self]) (fun j z hj hz=>?_))⟩
    rcases Nat.lt_or_ge j k with g | g
    ·exact hq j z g hz
    ·obtain rfl:j = k:=by omega
     rw [hy] at hz; cases hz; exact List.mem_append_left _ h3
   have s3:=Nf h3
   by_cases h4:y ∈ (x.steps.take i).map Step.out
   ·have s4:=Ng h4
    simp only [KP,Ax.loadAt,↓reduceIte,reduceEqDiff,reduceLT,reduceCtorEq,h.cK,h.aS,h.bE,h.cP,g1,g3,g5,g6,lp,hlt2,b1,bx,e2,k3,k4,B4,s3,s4,hadd2,bI d17,cB]
    refine next2 _ _ ⟨rfl,(lY (by simp +decide only [GS,g1,g3,g4,g5,and_self]) (fun j z hj hz=>?_))⟩
    rcases Nat.lt_or_ge j k with g | g
    ·exact hq j z g hz
    ·obtain rfl:j = k:=by omega
     rw [hy] at hz; cases hz; exact List.mem_append_right _ h4
   ·have s4:=Nf h4
    simp only [KP,Ax.loadAt,↓reduceIte,reduceEqDiff,reduceLT,reduceCtorEq,h.cK,h.aS,h.bE,h.cP,g1,g3,g5,g6,lp,hlt2,b1,bx,e2,k3,k4,B4,s3,s4,bI d17,cB]
    exact hbad _ fun e=>(mem_append.1 (e.2 y (mem_of_getElem? hy))).elim h3 h4
  ·rintro F σ1 ⟨rfl,g1,g3,g4,g5,g6,hq⟩
   have hlt2:=dS (Nat.lt_irrefl st.args.length)
   obtain ⟨w2,τ2,ha2,o2,k2',n2⟩:=ET (s:=st.out) (ex:=true) h o1 (by omega)
   rw [aG]
   simp only [KP,Ax.loadAt,↓reduceIte,reduceEqDiff,reduceLT,reduceLeDiff,reduceMul,reduceCtorEq,h.cK,h.aS,h.cP,g3,g4,g5,g6,lp,hlt2,bx,iM,ha2,hadd]
   have b2:τ2[0]? = some (.cells 37 [.str x.name,a,b,c,d] true):=k2' 0 _ (aL b1) (j_ b1 (by decide) o1)
   refine next _ _ ⟨b2,(kW (by simp +decide only [GS,g1,and_self]) ⟨⟨w2,(by simp +decide only [GS]),?_⟩,fun j s hj hs=>?_⟩)⟩
   ·have e:(x.steps.take (i + 1)).map Step.out = (x.steps.take i).map Step.out ++ [st.out]:=by rw [take_add_one,hst]; simp
    rw [e]; exact o2
   ·rcases Nat.lt_or_ge j i with g | g
    ·exact hp j s g hs
    ·obtain rfl:j = i:=by omega
     rw [hst] at hs; cases hs
     exact ⟨fun e=>(mem_append.1 e).elim h1 h2,fun y hy=>by
      obtain ⟨n,hn,e⟩:=List.getElem_of_mem hy
      exact hq n y hn (by rw [List.getElem?_eq_getElem hn,e])⟩
 ·rintro F Y ⟨b0,g1,g4,⟨w,g3,ow⟩,hp⟩
  have hlt:=dS (Nat.lt_irrefl x.steps.length)
  rw [take_of_length_le (Nat.le_refl _)] at ow
  have hst:gT x.ins x.steps = true:=(sI _ _).2 fun i s hs=>hp i s (List.getElem?_eq_some_iff.1 hs).1 hs
  have hk:=hk Y
  rw [hst] at hk
  simp only [true_and] at hk
  rw [aG]
  simp only [KP,Ax.loadAt,↓reduceIte,reduceEqDiff,reduceLT,reduceCtorEq,h.fE,h.bE,g1,g4,ld,hlt,b0]
  exact fin Y w b0 ow _ (by simp +decide only [GS,g1]) (by simp +decide only [GS,g3]) hk
end
end
end Go.Proofs.YtlbbdpkjeeiahaaGreatDoor
end
