/- Part 15 of the proof. -/
import Derived.Test.YtmhchflckonklaaGreatDoorY
import Derived.Test.YtmhchflckonklaaGreatDoorZ14
import Derived.Test.YtmhchflckonklaaGreatDoorZ0
import Derived.Test.YtmhchflckonklaaGreatDoorZ3
set_option maxHeartbeats 8000000
set_option linter.unusedVariables false
set_option maxRecDepth 10000
open Nat (reduceLT reduceAdd reduceEqDiff reduceLeDiff reduceMul)
open List (take_succ_cons take_nil)
open Int (reduceNeg reduceEq)
section
namespace Go.Ax
open Go
section
def FT.set (F:FT) (t:Nat) (v:V):FT:=FT.put v (t + 1) F t
theorem FT.jZ {F:FT} {u t:Nat} {v:V}:(FT.set F u v).get t = if t = u then v else F.get t:=FT.aF v (u + 1) F u t (by omega)
theorem Fr.Ng {n u:Nat} {F:FT} {v:V}:Fr.put ⟨n,F⟩ u v = if u < n then ⟨n,FT.set F u v⟩ else ⟨n,F⟩:=by
 unfold Fr.put
 cases h:Nat.blt u n with
 | true=>rw [jv] at h; rw [ZO h]; rfl
 | false=>rw [ZM]; intro g; rw [<- jv] at g; rw [h] at g; cases g
theorem Fr.TY {n t:Nat} {F:FT}:Fr.get ⟨n,F⟩ t = if t < n then some (F.get t) else none:=by
 unfold Fr.get
 cases h:Nat.blt t n with
 | true=>rw [jv] at h; rw [ZO h]
 | false=>rw [ZM]; intro g; rw [<- jv] at g; rw [h] at g; cases g
section
variable {E:Env} {fr:Fr} {Z:Sg} {ops:Array Oper} {l:List Oper} {Q:Fr -> Sg -> Prop} {dst:Option Nat} {op:Op} {ty:Nat} {pos:String} {after:Array Edge}
theorem Bk:sX E ops (⟨dst,op,ty,pos,after,none⟩ :: l) fr Z Q = kB E op fr Z fun v Z=>sX E ops l (eD fr dst v) Z Q:=by
 rw [wpOps_cons]; exact ZO rfl
end
section
variable {E:Env} {fr:Fr} {Z:Sg} {K:V -> Sg -> Prop}
theorem c_ {o:Option (V × Sg)}:got o K = (match o with
  | some (v,Z)=>K v Z
  | none=>False):=rfl
def app3 (a b c:List V):Option (List V):=some (a ++ b ++ c)
theorem KN {x:Operand}:kB E (.move x) fr Z K = (match (aT fr x).map (·,Z) with
  | some (v,Z)=>K v Z
  | none=>False):=(bT (f:=fun fr Z=>(aT fr x).map (·,Z)) rfl).trans c_
theorem FI {x:Operand}:kB E (.assign x) fr Z K = (match (aT fr x).map (·,Z) with
  | some (v,Z)=>K v Z
  | none=>False):=(bT (f:=fun fr Z=>(aT fr x).map (·,Z)) rfl).trans c_
theorem KL {c a b:Operand}:kB E (.pick c a b) fr Z K = (match jN E fr Z c a b with
  | some (v,Z)=>K v Z
  | none=>False):=(bT (f:=fun fr Z=>jN E fr Z c a b) rfl).trans c_
theorem H_ {e:Nat}:kB E (.alloc e) fr Z K = (match rN E fr Z e with
  | some (v,Z)=>K v Z
  | none=>False):=(bT (f:=fun fr Z=>rN E fr Z e) rfl).trans c_
theorem Mq {e:Nat} {x:Operand}:kB E (.box e x) fr Z K = (match Gy E fr Z e x with
  | some (v,Z)=>K v Z
  | none=>False):=(bT (f:=fun fr Z=>Gy E fr Z e x) rfl).trans c_
theorem H8 {t:Nat} {parts:Array (Nat × Operand)}:kB E (.build t parts) fr Z K = (match qB E fr Z t parts with
  | some (v,Z)=>K v Z
  | none=>False):=(bT (f:=fun fr Z=>qB E fr Z t parts) rfl).trans c_
theorem AN {t len:Nat} {parts:Array (Nat × Operand)}:kB E (.buildSlice t len parts) fr Z K = (match e_ E fr Z t len parts with
  | some (v,Z)=>K v Z
  | none=>False):=by
 refine propext ⟨fun ⟨_,v,σ',h,hk⟩=>?_,fun h=>?_⟩
 ·have h:e_ E fr Z t len parts = some (v,σ'):=h
  rw [h]; exact hk
 ·split at h
  ·rename_i v σ' e
   exact ⟨0,v,σ',e,h⟩
  ·exact h.elim
theorem KO {t:Nat} {a:Operand}:kB E (.load t a) fr Z K = (match hU E fr Z t a with
  | some (v,Z)=>K v Z
  | none=>False):=(bT (f:=fun fr Z=>hU E fr Z t a) rfl).trans c_
theorem HX {t:Nat} {a x:Operand}:kB E (.store t a x) fr Z K = (match jM E fr Z t a x with
  | some (v,Z)=>K v Z
  | none=>False):=(bT (f:=fun fr Z=>jM E fr Z t a x) rfl).trans c_
theorem C5 {x:Operand}:kB E (.nilCheck x) fr Z K = (match iX E fr Z x with
  | some (v,Z)=>K v Z
  | none=>False):=(bT (f:=fun fr Z=>iX E fr Z x) rfl).trans c_
theorem H9 {op:BinOp} {t u:Nat} {x y:Operand}:kB E (.binOp op t x y u) fr Z K = (match eL E fr Z op t x y with
  | some (v,Z)=>K v Z
  | none=>False):=(bT (f:=fun fr Z=>eL E fr Z op t x y) rfl).trans c_
theorem KK {op:UnOp} {t:Nat} {x:Operand}:kB E (.unOp op t x) fr Z K = (match nP E fr Z op x with
  | some (v,Z)=>K v Z
  | none=>False):=(bT (f:=fun fr Z=>nP E fr Z op x) rfl).trans c_
theorem EC {s d:Nat} {x:Operand}:kB E (.convert s d x) fr Z K = (match lR E fr Z s d x with
  | some (v,Z)=>K v Z
  | none=>False):=(bT (f:=fun fr Z=>lR E fr Z s d x) rfl).trans c_
theorem HZ {t:Nat} {x:Operand}:kB E (.range t x) fr Z K = (match oU E fr Z t x with
  | some (v,Z)=>K v Z
  | none=>False):=(bT (f:=fun fr Z=>oU E fr Z t x) rfl).trans c_
theorem KM {x:Operand}:kB E (.next x true) fr Z K = (match vG E fr Z x with
  | some (v,Z)=>K v Z
  | none=>False):=(bT (f:=fun fr Z=>vG E fr Z x) rfl).trans c_
theorem vP {t:Nat} {x:Operand}:kB E (.makeInterface t x) fr Z K = (match dS E fr Z t x with
  | some (v,Z)=>K v Z
  | none=>False):=(bT (f:=fun fr Z=>dS E fr Z t x) rfl).trans c_
theorem C6 {f:Nat} {a b:Array Operand}:kB E (.makeFunc (.func f) a b) fr Z K = (match iY E fr Z f a b with
  | some (v,Z)=>K v Z
  | none=>False):=(bT (f:=fun fr Z=>iY E fr Z f a b) rfl).trans c_
theorem EA {t:Nat} {r:Option Operand}:kB E (.makeMap t r) fr Z K = (match lQ E fr Z t r with
  | some (v,Z)=>K v Z
  | none=>False):=(bT (f:=fun fr Z=>lQ E fr Z t r) rfl).trans c_
theorem Bn {t:Nat} {l c:Operand}:kB E (.makeSlice t l c) fr Z K = (match jO E fr Z t l c with
  | some (v,Z)=>K v Z
  | none=>False):=(bT (f:=fun fr Z=>jO E fr Z t l c) rfl).trans c_
theorem HY {t:Nat} {x:Operand} {lo hi mx:Option Operand}:kB E (.slice t x lo hi mx) fr Z K = (match rM E fr Z t x lo hi mx with
  | some (v,Z)=>K v Z
  | none=>False):=(bT (f:=fun fr Z=>rM E fr Z t x lo hi mx) rfl).trans c_
theorem Bp {t f:Nat} {x:Operand}:kB E (.fieldAddr t x f) fr Z K = (match gW E fr Z t x f with
  | some (v,Z)=>K v Z
  | none=>False):=(bT (f:=fun fr Z=>gW E fr Z t x f) rfl).trans c_
theorem H7 {t f:Nat} {x:Operand}:kB E (.field t x f) fr Z K = (match qA E fr Z t x f with
  | some (v,Z)=>K v Z
  | none=>False):=(bT (f:=fun fr Z=>qA E fr Z t x f) rfl).trans c_
theorem Bo {t:Nat} {x i:Operand}:kB E (.indexAddr t x i) fr Z K = (match bW E fr Z t x i with
  | some (v,Z)=>K v Z
  | none=>False):=(bT (f:=fun fr Z=>bW E fr Z t x i) rfl).trans c_
theorem H6 {t:Nat} {x i:Operand}:kB E (.index t x i) fr Z K = (match p_ E fr Z t x i with
  | some (v,Z)=>K v Z
  | none=>False):=(bT (f:=fun fr Z=>p_ E fr Z t x i) rfl).trans c_
theorem FH {t:Nat} {x k:Operand} {ok:Bool}:kB E (.lookup t x k ok) fr Z K = (match dO E fr Z t x k ok with
  | some (v,Z)=>K v Z
  | none=>False):=(bT (f:=fun fr Z=>dO E fr Z t x k ok) rfl).trans c_
theorem Bl {t:Nat} {m k x:Operand}:kB E (.mapUpdate t m k x) fr Z K = (match dL E fr Z t m k x with
  | some (v,Z)=>K v Z
  | none=>False):=(bT (f:=fun fr Z=>dL E fr Z t m k x) rfl).trans c_
theorem EB {t:Operand} {i:Nat}:kB E (.extract t i) fr Z K = (match cM E fr Z t i with
  | some (v,Z)=>K v Z
  | none=>False):=(bT (f:=fun fr Z=>cM E fr Z t i) rfl).trans c_
theorem ED {b:Builtin} {args:Array Operand} {ats:Array Nat}:kB E (.call { callee:=.builtin b,args:=args,argTypes:=ats }) fr Z K = (match eE E fr Z b args ats with
  | some (v,Z)=>K v Z
  | none=>False):=by
 refine propext ⟨fun ⟨_,v,σ',h,hk⟩=>?_,fun h=>?_⟩
 ·have h:eE E fr Z b args ats = some (v,σ'):=by cases b <;> exact h
  rw [h]; exact hk
 ·split at h
  ·rename_i v σ' e
   exact ⟨0,v,σ',by cases b <;> exact e,h⟩
  ·exact h.elim
theorem KQ {f:Operand} {args:Array Operand} {ats:Array Nat}:kB E (.call { callee:=.value f,args:=args,argTypes:=ats }) fr Z K = match aT fr f,eN fr args.toList with
  | some (.fn k first cap),some l=>(match app3 first l cap with
   | some l=>aB E k l Z K
   | none=>False)
  | _,_=>False:=by
 refine propext ⟨fun ⟨n,v,σ',h,hk⟩=>?_,fun h=>?_⟩
 ·have h:(match aT fr f,eN fr args.toList with
   | some (.fn k first cap),some l=>fW E (ev E n) k (first ++ l ++ cap) Z
   | _,_=>no "call") = some (v,σ'):=h
  split at h
  ·exact ⟨n,v,σ',h,hk⟩
  ·cases h
 ·split at h
  ·rename_i e1 e2
   obtain ⟨n,v,σ',h,hk⟩:=h
   refine ⟨n,v,σ',?_,hk⟩
   show (match aT fr f,eN fr args.toList with
    | some (.fn k first cap),some l=>fW E (ev E n) k (first ++ l ++ cap) Z
    | _,_=>no "call") = some (v,σ')
   rw [e1,e2]; exact h
  ·exact h.elim
def EW (E:Env) (rs:List ResultVar) (K:V -> Sg -> Prop) (fr:Fr) (Z:Sg):Prop:=match results E fr Z rs with
 | some [v]=>K v Z
 | some vs=>K (.gB vs) Z
 | none=>False
def mW (E:Env) (F:Fn) (args:List V) (Z:Sg) (K:V -> Sg -> Prop):Prop:=match Fr.init F.ntmps args with
 | none=>False
 | some fr=>Wp E F.code fr Z fun x fr Z=>match x with
  | .exit _=>False
  | _=>EW E F.results K fr Z
theorem sY {F:Fn} {args:List V}:mW E F args Z K ↔ ∃ n v σ',enter E (ev E n) F args Z = some (v,σ') /\ K v σ':=by
 unfold mW enter
 cases hi:Fr.init F.ntmps args with
 | none=>exact ⟨fun h=>h.elim,fun ⟨_,_,_,h,_⟩=>by cases h⟩
 | some fr=>
  try dsimp only
  constructor
  ·rintro ⟨n,x,fr',σ',h,hq⟩
   refine ⟨n,?_⟩
   rw [h]
   cases x with
   | exit id=>exact hq.elim
   | normal=>
    simp only [EW] at hq
    split at hq
    ·rename_i v e; exact ⟨v,σ',by simp only [e],hq⟩
    ·rename_i vs hn e
     refine ⟨.gB vs,σ',?_,hq⟩
     simp only [e]
    ·exact hq.elim
   | ret=>
    simp only [EW] at hq
    split at hq
    ·rename_i v e; exact ⟨v,σ',by simp only [e],hq⟩
    ·rename_i vs hn e
     refine ⟨.gB vs,σ',?_,hq⟩
     simp only [e]
    ·exact hq.elim
  ·rintro ⟨n,v,σ',h,hk⟩
   have fin:∀ (fr1:Fr) (σ1:Sg),(match results E fr1 σ1 F.results with
     | some [v]=>some (v,σ1)
     | some vs=>some (V.gB vs,σ1)
     | none=>no "results") = some (v,σ') -> EW E F.results K fr1 σ1:=by
    intro fr1 σ1 h
    unfold EW
    split at h
    ·cases h; exact hk
    ·rename_i vs hn e
     cases h
     cases vs with
     | nil=>exact hk
     | cons a l=>cases l with
      | nil=>exact absurd rfl (hn a)
      | cons b l=>exact hk
    ·cases h
   cases he:ev E n F.code fr Z with
   | none=>rw [he] at h; cases h
   | some y=>
    obtain ⟨x,fr1,σ1⟩:=y
    rw [he] at h
    refine ⟨n,x,fr1,σ1,he,?_⟩
    cases x with
    | exit id=>cases h
    | normal=>exact fin _ _ h
    | ret=>exact fin _ _ h
theorem nT {f:Nat} {args:List V} {s:List V -> Sg -> Option (V × Sg)} (h1:E.hspec f = some s):aB E f args Z K = got (s args Z) K:=by
 unfold aB fW
 rw [h1]
 dsimp only
 cases s args Z with
 | none=>exact propext ⟨fun ⟨_,_,_,h,_⟩=>(by cases h),fun h=>h.elim⟩
 | some y=>exact propext ⟨fun ⟨_,_,_,h,hk⟩=>(by cases h; exact hk),fun h=>⟨0,_,_,rfl,h⟩⟩
theorem sZ {f:Nat} {args args':List V} {s:List V -> Option V} {v v':V} (h1:E.hspec f = none) (h2:E.spec f = some s) (h3:aW (aS Z E.ty true) args = some args') (h4:s args' = some v) (h5:cK [] E.ty false v = some v'):aB E f args Z K = K v' Z:=by
 have:∀ r,fW E r f args Z = some (v',Z):=fun r=>by
  unfold fW
  rw [h1,h2,h3]
  dsimp only
  rw [h4]
  dsimp only
  rw [h5]
 exact propext ⟨fun ⟨n,_,_,h,hk⟩=>(by rw [this] at h; cases h; exact hk),fun h=>⟨0,_,_,this _,h⟩⟩
theorem dF {f:Nat} {args:List V} {F:Fn} (h1:E.hspec f = none) (h2:E.spec f = none) (h3:E.fn f = some F) (h4:E.mode f = .shared):aB E f args Z K = mW E F args Z K:=by
 rw [propext sY]
 unfold aB fW
 rw [h1,h2,h3,h4]
 dsimp only
 refine propext ⟨fun ⟨n,v,σ',h,hk⟩=>⟨n,v,σ',?_,hk⟩,fun ⟨n,v,σ',h,hk⟩=>⟨n,v,σ',by rw [h],hk⟩⟩
 split at h
 ·rename_i e; rw [e]; exact h
 ·cases h
theorem aH {f:Nat} {args args':List V} {F:Fn} (h1:E.hspec f = none) (h2:E.spec f = none) (h3:E.fn f = some F) (h4:E.mode f = .eW) (h5:aW (aS Z E.ty true) args = some args') :
  aB E f args Z K = mW E F args' [] fun v σ1=>match cK σ1 E.ty false v with
   | some v=>K v Z
   | none=>False:=by
 rw [propext sY]
 unfold aB fW
 rw [h1,h2,h3,h4]
 dsimp only
 rw [h5]
 dsimp only
 refine propext ⟨fun ⟨n,v,σ',h,hk⟩=>?_,fun ⟨n,v,σ',h,hk⟩=>?_⟩
 ·cases he:enter E (ev E n) F args' [] with
  | none=>rw [he] at h; cases h
  | some y=>
   obtain ⟨u,σ1⟩:=y
   rw [he] at h
   dsimp only at h
   refine ⟨n,u,σ1,he,?_⟩
   cases hs:cK σ1 E.ty false u with
   | none=>rw [hs] at h; cases h
   | some v1=>rw [hs] at h; cases h; exact hk
 ·cases hs:cK σ' E.ty false v with
  | none=>rw [hs] at hk; exact hk.elim
  | some v1=>
   rw [hs] at hk
   refine ⟨n,v1,Z,?_,hk⟩
   rw [h]
   dsimp only
   rw [hs]
   rfl
theorem mW.mono {F:Fn} {args:List V} {K':V -> Sg -> Prop} (h:mW E F args Z K) (hk:∀ v Z,K v Z -> K' v Z):mW E F args Z K':=by
 rw [sY] at h ⊢
 obtain ⟨n,v,σ',h,hk'⟩:=h
 exact ⟨n,v,σ',h,hk _ _ hk'⟩
theorem aB.mono {f:Nat} {args:List V} {K':V -> Sg -> Prop} (h:aB E f args Z K) (hk:∀ v Z,K v Z -> K' v Z):aB E f args Z K':=by
 obtain ⟨n,v,σ',h,hk'⟩:=h
 exact ⟨n,v,σ',h,hk _ _ hk'⟩
def JX:List Oper -> Bool
 | []=>true
 | o :: l=>(match o.op with
  | .buildSlice ..=>false
  | .call { callee:=.builtin .append,.. }=>false
  | _=>true) && JX l
theorem Lg {ev:yQ} {dr:Fz} {op:Op} {fr:Fr} (h:(match op with
  | .buildSlice ..=>false
  | .call { callee:=.builtin .append,.. }=>false
  | _=>true) = true):jW E ev dr op fr Z = jW E ev .no op fr Z:=by
 cases op with
 | buildSlice t len parts=>cases h
 | call cc=>
  obtain ⟨callee,args,ats⟩:=cc
  cases callee with
  | builtin b=>cases b <;> first | rfl | cases h
  | _=>rfl
 | _=>rfl
theorem AB {ev:yQ} {dr:Fz} {ops:Array Oper}:∀ {l:List Oper} {fr:Fr} {Z:Sg},JX l = true -> fV E ev dr ops l fr Z = fV E ev .no ops l fr Z
 | [],_,_,_=>rfl
 | o :: l,fr,Z,h=>by
  simp only [JX,Z3] at h
  have e:bF E ev dr ops o fr Z = bF E ev .no ops o fr Z:=by
   unfold bF
   rw [Lg h.1]
  rw [fV,fV,e]
  cases bF E ev .no ops o fr Z with
  | none=>rfl
  | some y=>exact AB h.2
def aL (E:Env):Code -> Bool
 | .region _ ops true=>(match cC E (fA E ops) ops with
  | some []=>true
  | _=>false) && (JX ops.toList || (match fA E ops with | .no=>true | _=>false))
 | _=>false
def bM:Code -> Code
 | .region id ops _=>.region id ops false
 | c=>c
theorem KI {c:Code} {fr:Fr} {Q:X -> Fr -> Sg -> Prop} (h:aL E c = true):Wp E c fr Z Q = Wp E (bM c) fr Z Q:=by
 unfold aL at h
 split at h
 case h_2=>cases h
 rename_i id ops
 rw [Z3] at h
 obtain ⟨h1,h2⟩:=h
 show _ = Wp E (.region id ops false) fr Z Q
 rw [Jm,Mp]
 unfold O8 sX cE
 cases hp:cC E (fA E ops) ops with
 | none=>rw [hp] at h1; cases h1
 | some l=>
  rw [hp] at h1
  cases l with
  | cons d l=>cases h1
  | nil=>
   simp only
   cases hd:fA E ops with
   | no=>rfl
   | _=>
    rw [hd] at h2
    simp only [Bool.or_false] at h2
    simp only [AB h2]
def opsOf:Code -> Array Oper
 | .region _ ops _=>ops
 | _=>#[]
def cutAt:List Nat -> Code -> Code
 | [],c=>c
 | 0 :: p,.seq a _=>cutAt p a
 | 1 :: p,.seq _ b=>cutAt p b
 | 2 :: p,.block _ c=>cutAt p c
 | 2 :: p,.loop c=>cutAt p c
 | 0 :: p,.cond _ a _=>cutAt p a
 | 1 :: p,.cond _ _ b=>cutAt p b
 | _,c=>c
end
end
section
theorem R8:((0:Nat):Int) = 0:=rfl
theorem Sy:(0:Int).toNat = 0:=rfl
theorem Uk:(false == true) = false:=rfl
theorem Uj:(true == false) = false:=rfl
inductive jG where
 | k (c:Code) | blk (id:Nat) | lp (c:Code)
def M (E:Env):List jG -> X -> Fr -> Sg -> (X -> Fr -> Sg -> Prop) -> Prop
 | [],x,fr,Z,Q=>Q x fr Z
 | .k c :: s,.normal,fr,Z,Q=>Wp E c fr Z fun x fr Z=>M E s x fr Z Q
 | .k _ :: s,x,fr,Z,Q=>M E s x fr Z Q
 | .blk id :: s,.exit i,fr,Z,Q=>if i = id then M E s .normal fr Z Q else M E s (.exit i) fr Z Q
 | .blk _ :: s,x,fr,Z,Q=>M E s x fr Z Q
 | .lp c :: s,.normal,fr,Z,Q=>Wp E (.loop c) fr Z fun x fr Z=>M E s x fr Z Q
 | .lp _ :: s,x,fr,Z,Q=>M E s x fr Z Q
def R (E:Env) (c:Code) (s:List jG) (fr:Fr) (Z:Sg) (Q:X -> Fr -> Sg -> Prop):Prop:=Wp E c fr Z fun x fr Z=>M E s x fr Z Q
def dH (E:Env) (ops:Array Oper) (l:List Oper) (st:Option (Fr × Sg)) (s:List jG) (Q:X -> Fr -> Sg -> Prop):Prop:=match st with
 | some (fr,Z)=>sX E ops l fr Z fun fr Z=>M E s .normal fr Z Q
 | none=>False
def vZ (dst:Option Nat) (fr:Fr) (o:Option (V × Sg)):Option (Fr × Sg):=match o with
 | some (v,Z)=>some (eD fr dst v,Z)
 | none=>none
def C1 (E:Env) (f:Nat) (args:List V) (Z:Sg) (dst:Option Nat) (fr:Fr) (ops:Array Oper) (l:List Oper) (s:List jG) (Q:X -> Fr -> Sg -> Prop):Prop:=aB E f args Z fun v Z=>dH E ops l (some (eD fr dst v,Z)) s Q
section
variable {E:Env} {s:List jG} {fr:Fr} {Z:Sg} {Q:X -> Fr -> Sg -> Prop}
theorem Xq {x:X}:M E [] x fr Z Q = Q x fr Z:=rfl
theorem Ln {c:Code}:M E (.k c :: s) .normal fr Z Q = R E c s fr Z Q:=rfl
theorem NG {c:Code} {i:Nat}:M E (.k c :: s) (.exit i) fr Z Q = M E s (.exit i) fr Z Q:=rfl
theorem P8 {c:Code}:M E (.k c :: s) .ret fr Z Q = M E s .ret fr Z Q:=rfl
theorem Xr {id:Nat}:M E (.blk id :: s) .normal fr Z Q = M E s .normal fr Z Q:=rfl
theorem II {id i:Nat}:M E (.blk id :: s) (.exit i) fr Z Q = if i = id then M E s .normal fr Z Q else M E s (.exit i) fr Z Q:=rfl
theorem Lp {id:Nat}:M E (.blk id :: s) .ret fr Z Q = M E s .ret fr Z Q:=rfl
theorem m_lp {c:Code}:M E (.lp c :: s) .normal fr Z Q = R E (.loop c) s fr Z Q:=rfl
theorem Lm {c:Code} {i:Nat}:M E (.lp c :: s) (.exit i) fr Z Q = M E s (.exit i) fr Z Q:=rfl
theorem NF {c:Code}:M E (.lp c :: s) .ret fr Z Q = M E s .ret fr Z Q:=rfl
theorem Tg:R E .skip s fr Z Q = M E s .normal fr Z Q:=wp_skip
theorem Th {i:Nat}:R E (.exit i) s fr Z Q = M E s (.exit i) fr Z Q:=wp_exit
theorem V8:R E .ret s fr Z Q = M E s .ret fr Z Q:=wp_ret
theorem V7 {a b:Code}:R E (.seq a b) s fr Z Q = R E a (.k b :: s) fr Z Q:=by
 unfold R
 rw [wp_seq]
 congr 1
 funext x fr Z
 cases x <;> rfl
theorem PT {id:Nat} {c:Code}:R E (.block id c) s fr Z Q = R E c (.blk id :: s) fr Z Q:=by
 unfold R
 rw [wp_block]
 congr 1
 funext x fr Z
 cases x <;> rfl
theorem aG {c:Code}:R E (.loop c) s fr Z Q = R E c (.lp c :: s) fr Z Q:=by
 unfold R
 rw [wp_loop]
 congr 1
 funext x fr Z
 cases x <;> rfl
def I6 (o:Option V):Option Bool:=match o with
 | some (.bool b)=>some b
 | _=>none
theorem Hx {b:Bool}:I6 (some (.bool b)) = some b:=rfl
theorem Ti {c:Operand} {t e:Code}:R E (.cond c t e) s fr Z Q = if I6 (aT fr c) = some true then R E t s fr Z Q else if I6 (aT fr c) = some false then R E e s fr Z Q else False:=by
 unfold R
 rw [wp_cond]
 cases aT fr c with
 | none=>rfl
 | some v=>
  cases v with
  | bool b=>cases b <;> rfl
  | _=>rfl
theorem V9 {id:Nat} {l:List Oper}:R E (.region id l.toArray false) s fr Z Q = dH E l.toArray l (some (fr,Z)) s Q:=Mp
theorem aU {c:Code} (h:aL E c = true):R E c s fr Z Q = R E (bM c) s fr Z Q:=KI h
variable {ops:Array Oper} {l:List Oper} {dst:Option Nat} {ty:Nat} {pos:String} {after:Array Edge}
theorem TI:dH E ops l none s Q = False:=rfl
theorem Xx:dH E ops [] (some (fr,Z)) s Q = M E s .normal fr Z Q:=KJ
theorem Qo {op:Op} {j:Nat} {w:Bool}:dH E ops (⟨dst,op,ty,pos,after,some (j,w)⟩ :: l) (some (fr,Z)) s Q = if yielded ops fr j = some w then dH E ops (⟨dst,op,ty,pos,after,none⟩ :: l) (some (fr,Z)) s Q else dH E ops l (some (eD fr dst .undef,Z)) s Q:=by
 show sX E ops (⟨dst,op,ty,pos,after,some (j,w)⟩ :: l) fr Z _ = _
 rw [wpOps_cons]
 by_cases h:yielded ops fr j = some w
 ·rw [ZO h,ZO (by show (yielded ops fr j == some w) = true; rw [h]; simp)]
  exact Bk.symm
 ·rw [ZM h,ZM]
  ·rfl
  ·intro g
   have g:(yielded ops fr j == some w) = true:=g
   exact h (by simpa using g)
theorem mC {op:Op} {o:Option (V × Sg)} (h:∀ K,kB E op fr Z K = (match o with
  | some (v,Z)=>K v Z
  | none=>False)):dH E ops (⟨dst,op,ty,pos,after,none⟩ :: l) (some (fr,Z)) s Q = dH E ops l (vZ dst fr o) s Q:=by
 show sX E ops (⟨dst,op,ty,pos,after,none⟩ :: l) fr Z _ = _
 rw [Bk,h]
 cases o with
 | none=>rfl
 | some y=>rfl
theorem TK {x:Operand}:dH E ops (⟨dst,.move x,ty,pos,after,none⟩ :: l) (some (fr,Z)) s Q = dH E ops l (vZ dst fr ((aT fr x).map (·,Z))) s Q:=mC fun _=>KN
theorem N0 {x:Operand}:dH E ops (⟨dst,.assign x,ty,pos,after,none⟩ :: l) (some (fr,Z)) s Q = dH E ops l (vZ dst fr ((aT fr x).map (·,Z))) s Q:=mC fun _=>FI
theorem TH {c a b:Operand}:dH E ops (⟨dst,.pick c a b,ty,pos,after,none⟩ :: l) (some (fr,Z)) s Q = dH E ops l (vZ dst fr (jN E fr Z c a b)) s Q:=mC fun _=>KL
theorem Qu {e:Nat}:dH E ops (⟨dst,.alloc e,ty,pos,after,none⟩ :: l) (some (fr,Z)) s Q = dH E ops l (vZ dst fr (rN E fr Z e)) s Q:=mC fun _=>H_
theorem Xy {e:Nat} {x:Operand}:dH E ops (⟨dst,.box e x,ty,pos,after,none⟩ :: l) (some (fr,Z)) s Q = dH E ops l (vZ dst fr (Gy E fr Z e x)) s Q:=mC fun _=>Mq
theorem Qs {t:Nat} {parts:Array (Nat × Operand)}:dH E ops (⟨dst,.build t parts,ty,pos,after,none⟩ :: l) (some (fr,Z)) s Q = dH E ops l (vZ dst fr (qB E fr Z t parts)) s Q:=mC fun _=>H8
theorem Ff {t len:Nat} {parts:Array (Nat × Operand)}:dH E ops (⟨dst,.buildSlice t len parts,ty,pos,after,none⟩ :: l) (some (fr,Z)) s Q = dH E ops l (vZ dst fr (e_ E fr Z t len parts)) s Q:=mC fun _=>AN
theorem TL {t:Nat} {a:Operand}:dH E ops (⟨dst,.load t a,ty,pos,after,none⟩ :: l) (some (fr,Z)) s Q = dH E ops l (vZ dst fr (hU E fr Z t a)) s Q:=mC fun _=>KO
theorem Qj {t:Nat} {a x:Operand}:dH E ops (⟨dst,.store t a x,ty,pos,after,none⟩ :: l) (some (fr,Z)) s Q = dH E ops l (vZ dst fr (jM E fr Z t a x)) s Q:=mC fun _=>HX
theorem IU {x:Operand}:dH E ops (⟨dst,.nilCheck x,ty,pos,after,none⟩ :: l) (some (fr,Z)) s Q = dH E ops l (vZ dst fr (iX E fr Z x)) s Q:=mC fun _=>C5
theorem Qt {op:BinOp} {t:Nat} {x y:Operand} {u:Nat}:dH E ops (⟨dst,.binOp op t x y u,ty,pos,after,none⟩ :: l) (some (fr,Z)) s Q = dH E ops l (vZ dst fr (eL E fr Z op t x y)) s Q:=mC fun _=>H9
theorem TF {op:UnOp} {t:Nat} {x:Operand}:dH E ops (⟨dst,.unOp op t x,ty,pos,after,none⟩ :: l) (some (fr,Z)) s Q = dH E ops l (vZ dst fr (nP E fr Z op x)) s Q:=mC fun _=>KK
theorem Lx {u d:Nat} {x:Operand}:dH E ops (⟨dst,.convert u d x,ty,pos,after,none⟩ :: l) (some (fr,Z)) s Q = dH E ops l (vZ dst fr (lR E fr Z u d x)) s Q:=mC fun _=>EC
theorem Ql {t:Nat} {x:Operand}:dH E ops (⟨dst,.range t x,ty,pos,after,none⟩ :: l) (some (fr,Z)) s Q = dH E ops l (vZ dst fr (oU E fr Z t x)) s Q:=mC fun _=>HZ
theorem AW {t:Nat} {x:Operand}:dH E ops (⟨dst,.makeInterface t x,ty,pos,after,none⟩ :: l) (some (fr,Z)) s Q = dH E ops l (vZ dst fr (dS E fr Z t x)) s Q:=mC fun _=>vP
theorem Lv {t:Nat} {r:Option Operand}:dH E ops (⟨dst,.makeMap t r,ty,pos,after,none⟩ :: l) (some (fr,Z)) s Q = dH E ops l (vZ dst fr (lQ E fr Z t r)) s Q:=mC fun _=>EA
theorem GX {t:Nat} {a c:Operand}:dH E ops (⟨dst,.makeSlice t a c,ty,pos,after,none⟩ :: l) (some (fr,Z)) s Q = dH E ops l (vZ dst fr (jO E fr Z t a c)) s Q:=mC fun _=>Bn
theorem Qk {t:Nat} {x:Operand} {lo hi mx:Option Operand}:dH E ops (⟨dst,.slice t x lo hi mx,ty,pos,after,none⟩ :: l) (some (fr,Z)) s Q = dH E ops l (vZ dst fr (rM E fr Z t x lo hi mx)) s Q:=mC fun _=>HY
theorem GZ {t:Nat} {x:Operand} {f:Nat}:dH E ops (⟨dst,.fieldAddr t x f,ty,pos,after,none⟩ :: l) (some (fr,Z)) s Q = dH E ops l (vZ dst fr (gW E fr Z t x f)) s Q:=mC fun _=>Bp
theorem Qr {t:Nat} {x:Operand} {f:Nat}:dH E ops (⟨dst,.field t x f,ty,pos,after,none⟩ :: l) (some (fr,Z)) s Q = dH E ops l (vZ dst fr (qA E fr Z t x f)) s Q:=mC fun _=>H7
theorem GY {t:Nat} {x i:Operand}:dH E ops (⟨dst,.indexAddr t x i,ty,pos,after,none⟩ :: l) (some (fr,Z)) s Q = dH E ops l (vZ dst fr (bW E fr Z t x i)) s Q:=mC fun _=>Bo
theorem Qn {t:Nat} {x i:Operand}:dH E ops (⟨dst,.index t x i,ty,pos,after,none⟩ :: l) (some (fr,Z)) s Q = dH E ops l (vZ dst fr (p_ E fr Z t x i)) s Q:=mC fun _=>H6
theorem NY {t:Nat} {x k:Operand} {ok:Bool}:dH E ops (⟨dst,.lookup t x k ok,ty,pos,after,none⟩ :: l) (some (fr,Z)) s Q = dH E ops l (vZ dst fr (dO E fr Z t x k ok)) s Q:=mC fun _=>FH
theorem GW {t:Nat} {m k x:Operand}:dH E ops (⟨dst,.mapUpdate t m k x,ty,pos,after,none⟩ :: l) (some (fr,Z)) s Q = dH E ops l (vZ dst fr (dL E fr Z t m k x)) s Q:=mC fun _=>Bl
theorem Lw {t:Operand} {i:Nat}:dH E ops (⟨dst,.extract t i,ty,pos,after,none⟩ :: l) (some (fr,Z)) s Q = dH E ops l (vZ dst fr (cM E fr Z t i)) s Q:=mC fun _=>EB
theorem TJ {x:Operand}:dH E ops (⟨dst,.next x true,ty,pos,after,none⟩ :: l) (some (fr,Z)) s Q = dH E ops l (vZ dst fr (vG E fr Z x)) s Q:=mC fun _=>KM
theorem IV {f:Nat} {a b:Array Operand}:dH E ops (⟨dst,.makeFunc (.func f) a b,ty,pos,after,none⟩ :: l) (some (fr,Z)) s Q = dH E ops l (vZ dst fr (iY E fr Z f a b)) s Q:=mC fun _=>C6
theorem Lz {b:Builtin} {args:Array Operand} {ats:Array Nat}:dH E ops (⟨dst,.call { callee:=.builtin b,args:=args,argTypes:=ats },ty,pos,after,none⟩ :: l) (some (fr,Z)) s Q = dH E ops l (vZ dst fr (eE E fr Z b args ats)) s Q:=mC fun _=>ED
theorem TN {f:Operand} {args:List Operand} {ats:Array Nat}:dH E ops (⟨dst,.call { callee:=.value f,args:=args.toArray,argTypes:=ats },ty,pos,after,none⟩ :: l) (some (fr,Z)) s Q = match aT fr f,eN fr args with
  | some (.fn k first cap),some l'=>C1 E k (first ++ l' ++ cap) Z dst fr ops l s Q
  | _,_=>False:=by
 show sX E ops (⟨dst,.call { callee:=.value f,args:=args.toArray,argTypes:=ats },ty,pos,after,none⟩ :: l) fr Z _ = _
 rw [Bk,KQ]
 rfl
theorem Ow {f:Nat} {args:List V} {v:V} {σ':Sg} (h:∀ K,aB E f args Z K = K v σ'):C1 E f args Z dst fr ops l s Q = dH E ops l (some (eD fr dst v,σ')) s Q:=h _
abbrev KC (E:Env) (f:Nat) (args:List V) (Z:Sg) (v:V) (σ':Sg):Prop:=∀ (dst:Option Nat) (fr:Fr) (ops:Array Oper) (l:List Oper) (s:List jG) (Q:X -> Fr -> Sg -> Prop),C1 E f args Z dst fr ops l s Q = dH E ops l (some (eD fr dst v,σ')) s Q
theorem dK {f:Nat} {args:List V} {v:V} {σ':Sg} (h:∀ K,aB E f args Z K = K v σ'):KC E f args Z v σ':=fun _ _ _ _ _ _=>h _
theorem aP {f:Nat} {args:List V} {P:V -> Sg -> Prop} (h:aB E f args Z P) (hp:∀ v σ',P v σ' -> dH E ops l (some (eD fr dst v,σ')) s Q):C1 E f args Z dst fr ops l s Q:=h.mono hp
end
theorem gP {E:Env} {s:List jG} {fr fr':Fr} {Z σ':Sg} {Q:X -> Fr -> Sg -> Prop} {id n:Nat} {ops:Array Oper} (h:cE E (ev E n) ops fr Z = some (fr',σ')):R E (.region id ops true) s fr Z Q = M E s .normal fr' σ' Q:=by
 unfold R
 rw [Jm]
 refine propext ⟨fun ⟨m,fr1,σ1,h1,hq⟩=>?_,fun hq=>⟨n,fr',σ',h,hq⟩⟩
 have a:=tZ (lV E (Nat.le_max_left n m)) h
 rw [tZ (lV E (Nat.le_max_right n m)) h1] at a
 cases a
 exact hq
def mE (E:Env) (rs:List ResultVar) (K:V -> Sg -> Prop) (x:X) (fr:Fr) (Z:Sg):Prop:=match x with
 | .exit _=>False
 | _=>EW E rs K fr Z
theorem QX {E:Env} {rs:List ResultVar} {K:V -> Sg -> Prop} {fr:Fr} {Z:Sg}:mE E rs K .ret fr Z = EW E rs K fr Z:=rfl
theorem I3 {E:Env} {rs:List ResultVar} {K:V -> Sg -> Prop} {fr:Fr} {Z:Sg}:mE E rs K .normal fr Z = EW E rs K fr Z:=rfl
theorem T2 {E:Env} {F:Fn} {args:List V} {Z:Sg} {K:V -> Sg -> Prop} {fr:Fr} (h:Fr.init F.ntmps args = some fr):mW E F args Z K = R E F.code [] fr Z (mE E F.results K):=by
 unfold mW
 rw [h]
 show Wp E F.code fr Z _ = Wp E F.code fr Z _
 congr 1
theorem Yp {F:FT} {u:Nat} {v:V}:(FT.set F u v).get u = v:=by rw [FT.jZ,ZO rfl]
theorem Yo {F:FT} {t u:Nat} {v:V} (h:t ≠ u):(FT.set F u v).get t = F.get t:=by rw [FT.jZ,ZM h]
def FT.fill (F:FT) (i:Nat):List V -> FT
 | []=>F
 | v :: r=>FT.fill (FT.set F i v) (i + 1) r
theorem Y_ {F:FT} {i:Nat}:FT.fill F i [] = F:=rfl
theorem Y9 {F:FT} {i:Nat} {v:V} {r:List V}:FT.fill F i (v :: r) = FT.fill (FT.set F i v) (i + 1) r:=rfl
abbrev GS:=And.intro @Yp (And.intro @Yo (And.intro @Y_ (And.intro @Y9 @R8)))
theorem fill_eq {n:Nat}:∀ (l:List V) (F:FT) (i:Nat),i + l.length <= n -> Fr.fill ⟨n,F⟩ i l = ⟨n,FT.fill F i l⟩
 | [],_,_,_=>rfl
 | v :: l,F,i,h=>by
  simp only [Z0] at h
  rw [Fr.fill,Fr.Ng,ZO (by omega),fill_eq l _ _ (by omega)]
  rfl
theorem aX {E:Env} {F:Fn} {args:List V} {Z:Sg} {K:V -> Sg -> Prop} (h:Nat.ble args.length F.ntmps = true):mW E F args Z K = R E F.code [] ⟨F.ntmps,FT.fill .leaf 0 args⟩ Z (mE E F.results K):=by
 refine T2 ?_
 unfold Fr.init
 rw [h]
 dsimp only
 rw [fill_eq _ _ _ (by rw [an]; exact gv h)]
end
end Go.Ax
end
section
namespace Go.Proofs.YtmhchflckonklaaGreatDoor
open Go Go.Ax
abbrev KP:=(And.intro (And.intro (And.intro (And.intro (And.intro (And.intro (And.intro (And.intro @R8 @Sy) (And.intro @Uk @Uj)) (And.intro (And.intro @Xq @Ln) (And.intro @NG @P8))) (And.intro (And.intro (And.intro @Xr @II) (And.intro @Lp @m_lp)) (And.intro (And.intro @Lm @NF) (And.intro @Tg @Th)))) (And.intro (And.intro (And.intro (And.intro @V8 @V7) (And.intro @PT @Ti)) (And.intro (And.intro @V9 @Hx) (And.intro @QX @I3))) (And.intro (And.intro (And.intro @TK @N0) (And.intro @TH @Qu)) (And.intro (And.intro @Xy @Qs) (And.intro @Ff @TL))))) (And.intro (And.intro (And.intro (And.intro (And.intro @Qj @IU) (And.intro @Qt @TF)) (And.intro (And.intro @Lx @Ql) (And.intro @TJ @AW))) (And.intro (And.intro (And.intro @IV @Lv) (And.intro @GX @Qk)) (And.intro (And.intro @GZ @Qr) (And.intro @GY @Qn)))) (And.intro (And.intro (And.intro (And.intro @NY @GW) (And.intro @Lw @Lz)) (And.intro (And.intro @TN @Qo) (And.intro @Xx @TI))) (And.intro (And.intro (And.intro @Ax.Fr.Ng @Ax.Fr.TY) (And.intro @FT.jZ @FT.tW)) (And.intro (And.intro @ZP.{1} @ZK.{1}) (And.intro @ite_true.{1} @ite_false.{1})))))) (And.intro (And.intro (And.intro (And.intro (And.intro (And.intro @true_and @ai) (And.intro @false_and @and_false)) (And.intro (And.intro @ZX.{0,0} @Option.map_none.{0,0}) (And.intro @cg.{0,0} @Option.bind_none.{0,0}))) (And.intro (And.intro (And.intro @eu.{0} @Z9.{0}) (And.intro @Option.getD_none.{0} @cv.{0})) (And.intro (And.intro @fu.{0} @Z_.{0}) (And.intro @ak.{0} @List.getElem?_nil.{0})))) (And.intro (And.intro (And.intro (And.intro @aj.{0} @aq) (And.intro @je @ey)) (And.intro (And.intro @Bool.or_false @Bool.false_or) (And.intro @Bool.or_true @Bool.true_or))) (And.intro (And.intro (And.intro @Z4 @Bool.true_eq_false) (And.intro @er @jd)) (And.intro (And.intro @jq @Bool.and_false) (And.intro @lu @BEq.rfl.{0}))))) (And.intro (And.intro (And.intro (And.intro (And.intro @beq_self_eq_true.{0} @decide_true) (And.intro @decide_false @Nat.beq_refl)) (And.intro (And.intro @Z0.{0} @ZN.{0}) (And.intro @jf.{0} @take_succ_cons.{0}))) (And.intro (And.intro (And.intro @take_nil.{0} @cn.{0}) (And.intro @jx.{0} @kq.{0})) (And.intro (And.intro @List.append_eq.{0} @af.{0}) (And.intro @bg.{0} @cw.{0})))) (And.intro (And.intro (And.intro (And.intro @ij.{0} @jo.{0}) (And.intro @an @jl)) (And.intro (And.intro @dw.{0} @gy.{0}) (And.intro @dy.{0} @Z1))) (And.intro (And.intro (And.intro @Int.natCast_nonneg @Fm) (And.intro @iP @NT)) (And.intro (And.intro @FC @EN) (And.intro @ck.{0} (And.intro @Bool.not_eq_true @ne_eq.{1})))))))) (And.intro (And.intro (And.intro (And.intro (And.intro (And.intro (And.intro @not_true_eq_false @ju) (And.intro @gt_iff_lt.{0} @ZT)) (And.intro (And.intro @FT.fill.eq_1 @FT.fill.eq_2) (And.intro @vZ.eq_1 @vZ.eq_2))) (And.intro (And.intro (And.intro @Ax.yielded.eq_1 @aT.eq_1) (And.intro @aT.eq_2 @aT.eq_3)) (And.intro (And.intro @aT.eq_4 @eN.eq_1) (And.intro @eN.eq_2 @k_.eq_1)))) (And.intro (And.intro (And.intro (And.intro @k_.eq_2 @pF.eq_1) (And.intro @pF.eq_2 @Ax.ofValue.eq_1)) (And.intro (And.intro @Ax.ofValue.eq_2 @bE.eq_1) (And.intro @bE.eq_2 @bE.eq_3))) (And.intro (And.intro (And.intro @bE.eq_4 @bE.eq_5) (And.intro @bE.eq_6 @bE.eq_7)) (And.intro (And.intro @bE.eq_8 @bE.eq_9) (And.intro @Ax.ofValues.eq_1 @Ax.ofValues.eq_2))))) (And.intro (And.intro (And.intro (And.intro (And.intro @eD.eq_1 @eD.eq_2) (And.intro @jN.eq_1 @rN.eq_1)) (And.intro (And.intro @Gy.eq_1 @qB.eq_1) (And.intro @e_.eq_1 @hU.eq_1))) (And.intro (And.intro (And.intro @jM.eq_1 @iX.eq_1) (And.intro @eL.eq_1 @nP.eq_1)) (And.intro (And.intro @lR.eq_1 @dS.eq_1) (And.intro @iY.eq_1 @lQ.eq_1)))) (And.intro (And.intro (And.intro (And.intro @jO.eq_1 @rM.eq_1) (And.intro @gW.eq_1 @qA.eq_1)) (And.intro (And.intro @bW.eq_1 @p_.eq_1) (And.intro @dO.eq_1 @dL.eq_1))) (And.intro (And.intro (And.intro @cM.eq_1 @eE.eq_1) (And.intro @Ax.builtin.eq_1 @Ax.builtin.eq_2)) (And.intro (And.intro @Ax.builtin.eq_3 @Ax.builtin.eq_4) (And.intro @Ax.builtin.eq_5 (And.intro @Ax.builtin.eq_6 @Ax.builtin.eq_7))))))) (And.intro (And.intro (And.intro (And.intro (And.intro (And.intro @Ax.builtin.eq_8 @Ax.builtin.eq_9) (And.intro @Ax.builtin.eq_10 @Ax.builtin.eq_11)) (And.intro (And.intro @Ax.builtin.eq_12 @Ax.isAgg.eq_1) (And.intro @Ax.isAgg.eq_2 @Ax.isAgg.eq_3))) (And.intro (And.intro (And.intro @Fh.eq_1 @Fh.eq_2) (And.intro @Fh.eq_3 @Ax.fieldAddr.eq_1)) (And.intro (And.intro @Ax.field.eq_1 @Ax.field.eq_2) (And.intro @Ax.part.eq_1 @Ax.bin.eq_1)))) (And.intro (And.intro (And.intro (And.intro @Ax.bin.eq_2 @Ax.bin.eq_3) (And.intro @Ax.bin.eq_4 @Ax.bin.eq_5)) (And.intro (And.intro @Ax.bin.eq_6 @Ax.bin.eq_7) (And.intro @sQ.eq_1 @sQ.eq_2))) (And.intro (And.intro (And.intro @sQ.eq_3 @sQ.eq_4) (And.intro @sQ.eq_5 @sQ.eq_6)) (And.intro (And.intro @sQ.eq_7 @sQ.eq_8) (And.intro @Ax.arith.eq_1 @Ax.arith.eq_2))))) (And.intro (And.intro (And.intro (And.intro (And.intro @Ax.arith.eq_3 @Ax.arith.eq_4) (And.intro @Ax.arith.eq_5 @Ax.arith.eq_6)) (And.intro (And.intro @Ax.arith.eq_7 @Ax.arith.eq_8) (And.intro @Ax.arith.eq_9 @Ax.arith.eq_10))) (And.intro (And.intro (And.intro @Ax.arith.eq_11 @Ax.arith.eq_12) (And.intro @Ax.arith.eq_13 @Ax.arith.eq_14)) (And.intro (And.intro @Ax.arith.eq_15 @Ax.arith.eq_16) (And.intro @Ax.unop.eq_1 @Ax.unop.eq_2)))) (And.intro (And.intro (And.intro (And.intro @Ax.unop.eq_3 @Ax.isConst.eq_1) (And.intro @Ax.isConst.eq_2 @Ax.V.aZ.eq_1)) (And.intro (And.intro @Ax.V.aZ.eq_2 @Ax.V.aZ.eq_3) (And.intro @Ax.V.aZ.eq_4 @Ax.V.cells.eq_1))) (And.intro (And.intro (And.intro @Ax.V.cells.eq_2 @Ax.setCells.eq_1) (And.intro @EW.eq_1 @Ax.results.eq_1)) (And.intro (And.intro @Ax.results.eq_2 @Ax.results.eq_3) (And.intro @Ax.Fr.init.eq_1 (And.intro @Ax.Fr.fill.eq_1 @Ax.Fr.fill.eq_2)))))))))
end Go.Proofs.YtmhchflckonklaaGreatDoor
end
section
namespace Go.Ax
open Go
theorem lH {a0 a1 r:Prop} (h:a0 /\ a1) (k:r):a0 /\ a1 /\ r:=by simp only [h,k,Z5]
theorem iU {a0 a1 a2 r:Prop} (h:a0 /\ a1 /\ a2) (k:r):a0 /\ a1 /\ a2 /\ r:=by simp only [h,k,Z5]
theorem fE {a0 a1 a2 a3 r:Prop} (h:a0 /\ a1 /\ a2 /\ a3) (k:r):a0 /\ a1 /\ a2 /\ a3 /\ r:=by simp only [h,k,Z5]
theorem iJ {a0 a1 a2 a3 a4 r:Prop} (h:a0 /\ a1 /\ a2 /\ a3 /\ a4) (k:r):a0 /\ a1 /\ a2 /\ a3 /\ a4 /\ r:=by simp only [h,k,Z5]
theorem yJ {a0 a1 a2 a3 a4 a5 r:Prop} (h:a0 /\ a1 /\ a2 /\ a3 /\ a4 /\ a5) (k:r):a0 /\ a1 /\ a2 /\ a3 /\ a4 /\ a5 /\ r:=by simp only [h,k,Z5]
theorem Ek {a0 a1 a2 a3 a4 a5 a6 r:Prop} (h:a0 /\ a1 /\ a2 /\ a3 /\ a4 /\ a5 /\ a6) (k:r):a0 /\ a1 /\ a2 /\ a3 /\ a4 /\ a5 /\ a6 /\ r:=by simp only [h,k,Z5]
theorem AH {a0 a1 a2 a3 a4 a5 a6 a7 a8 r:Prop} (h:a0 /\ a1 /\ a2 /\ a3 /\ a4 /\ a5 /\ a6 /\ a7 /\ a8) (k:r):a0 /\ a1 /\ a2 /\ a3 /\ a4 /\ a5 /\ a6 /\ a7 /\ a8 /\ r:=by simp only [h,k,Z5]
theorem I5 {a0 a1 a2 a3 a4 a5 a6 a7 a8 a9 r:Prop} (h:a0 /\ a1 /\ a2 /\ a3 /\ a4 /\ a5 /\ a6 /\ a7 /\ a8 /\ a9) (k:r):a0 /\ a1 /\ a2 /\ a3 /\ a4 /\ a5 /\ a6 /\ a7 /\ a8 /\ a9 /\ r:=by simp only [h,k,Z5]
inductive eP {α β:Type} (P:α -> β -> Prop):List α -> List β -> Prop
 | nil:eP P [] []
 | cons {a b l m}:P a b -> eP P l m -> eP P (a :: l) (b :: m)
namespace eP
variable {α β:Type} {P Q:α -> β -> Prop} {l l':List α} {m m':List β}
theorem len (h:eP P l m):l.length = m.length:=by
 induction h with
 | nil=>rfl
 | cons _ _ ih=>simp [ih]
theorem append (h:eP P l m) (k:eP P l' m'):eP P (l ++ l') (m ++ m'):=by
 induction h with
 | nil=>exact k
 | cons p _ ih=>exact .cons p ih
theorem take (h:eP P l m):∀ n,eP P (l.take n) (m.take n):=by
 induction h with
 | nil=>intro n; rw [take_nil,take_nil]; exact .nil
 | cons p _ ih=>
  intro n
  cases n with
  | zero=>exact .nil
  | succ n=>exact .cons p (ih n)
theorem drop (h:eP P l m):∀ n,eP P (l.drop n) (m.drop n):=by
 induction h with
 | nil=>intro n; rw [kq,kq]; exact .nil
 | cons p q ih=>
  intro n
  cases n with
  | zero=>exact .cons p q
  | succ n=>exact ih n
theorem get (h:eP P l m):∀ (i:Nat) (x:β),m[i]? = some x -> ∃ r,l[i]? = some r /\ P r x:=by
 induction h with
 | nil=>intro i x e; cases e
 | cons p _ ih=>
  intro i x e
  cases i with
  | zero=>cases e; exact ⟨_,rfl,p⟩
  | succ i=>exact ih i x e
theorem mem (h:eP P l m) {r:α} (hr:r ∈ l):∃ x ∈ m,P r x:=by
 induction h with
 | nil=>cases hr
 | cons p _ ih=>
  rcases By.1 hr with rfl | hr
  ·exact ⟨_,IN ..,p⟩
  ·obtain ⟨x,h1,h2⟩:=ih hr; exact ⟨x,OF _ h1,h2⟩
theorem imp (h:eP P l m) (k:∀ a b,P a b -> Q a b):eP Q l m:=by
 induction h with
 | nil=>exact .nil
 | cons p _ ih=>exact .cons (k _ _ p) ih
theorem one {a:α} {b:β} (p:P a b):eP P [a] [b]:=.cons p .nil
theorem map {γ:Type} {f:γ -> α} {g:γ -> β} (k:∀ c,P (f c) (g c)):∀ l:List γ,eP P (l.map f) (l.map g)
 | []=>.nil
 | c :: l=>.cons (k c) (map k l)
end eP
def bD:V -> Bool
 | .bS .. | .cW .. | .imp .. | .bool _ | .int .. | .str _ | .fP | .aD | .bU | .qN | .qM=>true
 | _=>false
theorem aM {c:V} (h:bD c = true):c.aZ = true:=by cases c <;> first | rfl | cases h
theorem iW {Z:Sg} {ty:Nat -> Option Ty} {g:Bool} {n:Nat} {c:V} (h:bD c = true):bO Z ty g (n + 1) c = some c:=by
 cases c <;> first | rfl | cases h
theorem cN {Z:Sg} {ty:Nat -> Option Ty} {g:Bool} {c:V} (h:bD c = true) (ht:cH g c = true):aS Z ty g c = some c:=by
 have e:aS.one Z ty g c = some c:=by
  unfold aS.one
  rw [show dJ = 11 + 1 from rfl,iW h]
  simp only [ht,ZP]
 cases c <;> first | exact e | cases h
theorem DA {Z:Sg} {ty:Nat -> Option Ty} {g:Bool} {c:V} (h:bD c = true) (ht:cH g c = true):cK Z ty g c = some c:=by
 have:=cN (Z:=Z) (ty:=ty) h ht
 cases c <;> first | exact this | cases h
theorem cA {c:V} (h:bD c = true):cH true c = true:=by cases c <;> first | rfl | cases h
theorem gK {α:Type} {f:α -> Option α}:∀ {l:List α},(∀ x ∈ l,f x = some x) -> aW f l = some l
 | [],_=>rfl
 | x :: l,h=>by rw [aW,h x (IN ..),gK fun y hy=>h y (OF _ hy)]
theorem BK {Z:Sg} {ty:Nat -> Option Ty} {g:Bool} {b n t:Nat} {cs:List V} {ex:Bool} {i:Ty} (hb:Z[b]? = some (.cells t cs ex)) (hty:ty t = some i) (hlen:n * i.size <= cs.length)
  (hi:∀ c ∈ cs.take (n * i.size),bD c = true /\ cH g c = true):∃ full,aS Z ty g (.sl b 0 n none) = some (.bS g (rows i.size n (cs.take (n * i.size))) full):=by
 have hm:aW (fun v=>match bO Z ty g 11 v with
   | some v=>if cH g v then some v else no "snap: borrowed"
   | none=>none) ((cs.drop 0).take (n * i.size)) = some (cs.take (n * i.size)):=by
  rw [cn]
  refine gK fun x hx=>?_
  rw [show 11 = 10 + 1 from rfl,iW (hi x hx).1]
  simp only [(hi x hx).2,ZP]
 refine ⟨ex && decide (0 < i.size) && (0 + n * i.size == cs.length),?_⟩
 show (match bO Z ty g 12 (.sl b 0 n none) with
  | some v=>if cH g v then some v else no "snap: borrowed"
  | none=>none) = _
 have e:bO Z ty g 12 (.sl b 0 n none) = some (.bS g (rows i.size n (cs.take (n * i.size))) (ex && decide (0 < i.size) && (0 + n * i.size == cs.length))):=by
  rw [bO]
  simp only [hb,hty]
  rw [ZO (by omega)]
  exact ZL (fun o=>match o with
   | some l=>some (V.bS g (rows i.size n l) (ex && decide (0 < i.size) && (0 + n * i.size == cs.length)))
   | none=>none) hm
 rw [e]
 show (if (g || !g) = true then _ else _) = _
 rw [ZO (by cases g <;> rfl)]
theorem lN {sz:Nat}:∀ (rs:List (List V)),(∀ r ∈ rs,r.length = sz) -> rows sz rs.length rs.flatten = rs
 | [],_=>rfl
 | r :: rs,h=>by
  have hr:=h r (IN ..)
  rw [Z0,rows,az,List.take_append_of_le_length (by omega),Z6 (by omega),List.drop_append_of_le_length (by omega),jm (by omega),af,lN rs fun x hx=>h x (OF _ hx)]
theorem nE {sz:Nat}:∀ (rs:List (List V)),(∀ r ∈ rs,r.length = sz) -> rs.flatten.length = rs.length * sz
 | [],_=>by simp
 | r :: rs,h=>by
  rw [az,Z7,h r (IN ..),nE rs fun x hx=>h x (OF _ hx),Z0,fg,jk]
theorem Cw {sz:Nat}:∀ (rs:List (List V)),(∀ r ∈ rs,r.length = sz) -> ∀ (i:Nat) (r:List V),rs[i]? = some r -> (rs.flatten.drop (i * sz)).take sz = r
 | [],_,i,r,e=>by cases e
 | x :: rs,h,0,r,e=>by
  cases e
  have hr:=h x (IN ..)
  rw [dz,cn,az,List.take_append_of_le_length (by omega),Z6 (by omega)]
 | x :: rs,h,i + 1,r,e=>by
  have hr:=h x (IN ..)
  rw [az,List.drop_append,jm (by rw [fg]; omega),af,show (i + 1) * sz - x.length = i * sz by rw [fg]; omega]
  exact Cw rs (fun y hy=>h y (OF _ hy)) i r e
structure Lay (α:Type) where
 P:List V -> α -> Prop
 n:Nat
 len:∀ r x,P r x -> r.length = n
 im:∀ r x,P r x -> ∀ c ∈ r,bD c = true
def IS {α:Type} (L:Lay α) (v:V) (l:List α):Prop:=(v = .aD /\ l = []) \/ ∃ g rs full,v = .bS g rs full /\ eP L.P rs l
def jT {α:Type} (L:Lay α) (v:V) (l:List α):Prop:=(v = .aD /\ l = []) \/ ∃ rs full,v = .bS false rs full /\ eP L.P rs l
def LS {α:Type} (L:Lay α) (t:Nat) (Z:Sg) (v:V) (l:List α):Prop:=IS L v l \/ ∃ b cs ex rs,v = .sl b 0 l.length none /\ Z[b]? = some (.cells t cs ex) /\ eP L.P rs l /\ cs.take (l.length * L.n) = rs.flatten
def OS {α:Type} (L:Lay α) (t:Nat) (lo:Nat) (Z:Sg) (v:V) (l:List α):Prop:=(v = .aD /\ l = []) \/ ∃ b rs,lo <= b /\ v = .sl b 0 l.length none /\ Z[b]? = some (.cells t rs.flatten false) /\ eP L.P rs l
section
variable {α:Type} {L:Lay α} {E:Env} {Z:Sg} {v:V} {l:List α} {t:Nat}
theorem jT.is (h:jT L v l):IS L v l:=h.imp id fun ⟨rs,full,e,a⟩=>⟨false,rs,full,e,a⟩
theorem IS.ls (h:IS L v l) (Z:Sg) (t:Nat):LS L t Z v l:=.inl h
theorem IS.bD (h:IS L v l):bD v = true:=by rcases h with ⟨rfl,-⟩ | ⟨_,_,_,rfl,-⟩ <;> rfl
theorem jT.tag (h:jT L v l):cH false v = true:=by rcases h with ⟨rfl,-⟩ | ⟨_,_,rfl,-⟩ <;> rfl
theorem Lay.lens {rs:List (List V)} (h:eP L.P rs l):∀ r ∈ rs,r.length = L.n:=fun r hr=>by
 obtain ⟨x,-,hx⟩:=h.mem hr
 exact L.len r x hx
theorem Lay.flat {rs:List (List V)} (h:eP L.P rs l):rs.flatten.length = l.length * L.n:=by rw [nE rs (Lay.lens h),h.len]
theorem OS.ls {lo:Nat} (h:OS L t lo Z v l):LS L t Z v l:=by
 rcases h with h | ⟨b,rs,-,e,hb,ha⟩
 ·exact .inl (.inl h)
 ·exact .inr ⟨b,_,_,rs,e,hb,ha,Z6 (by rw [Lay.flat ha]; exact Z1 _)⟩
theorem LS.keep {Y:Sg} (h:LS L t Z v l) (k:∀ (b t:Nat) (cs:List V) (ex:Bool),Z[b]? = some (.cells t cs ex) -> Y[b]? = some (.cells t cs ex)):LS L t Y v l:=
 h.imp id fun ⟨b,cs,ex,rs,e,hb,r⟩=>⟨b,cs,ex,rs,e,k _ _ _ _ hb,r⟩
theorem OS.keep {Y:Sg} {lo:Nat} (h:OS L t lo Z v l) (k:∀ (b t:Nat) (cs:List V) (ex:Bool),lo <= b -> Z[b]? = some (.cells t cs ex) -> Y[b]? = some (.cells t cs ex)):OS L t lo Y v l:=
 h.imp id fun ⟨b,rs,hl,e,hb,r⟩=>⟨b,rs,hl,e,k _ _ _ _ hl hb,r⟩
theorem nM {ts e:Nat} {si:Ty} (hts:E.ty ts = some si) (hk:si.kd = .sl e) (h:LS L t Z v l):lenOf E Z ts v = some l.length:=by
 unfold lenOf
 rw [hts]
 simp only [hk]
 rcases h with (⟨rfl,rfl⟩ | ⟨g,rs,full,rfl,ha⟩) | ⟨b,cs,ex,rs,rfl,-⟩
 ·rfl
 ·show some rs.length = _; rw [ha.len]
 ·rfl
theorem HE {ts:Nat} {si ei:Ty} (hts:E.ty ts = some si) (hk:si.kd = .sl t) (ht:E.ty t = some ei) (hn:ei.size = L.n) (h:LS L t Z v l) {i:Nat} {x:α} (hx:l[i]? = some x) :
  ∃ p r,indexAddr E ts v (.int .i64 (i:Int)) = some p /\ L.P r x /\ (isAgg ei.kd = true -> loadAt E Z t p = some (.agg r)) /\ (isAgg ei.kd = false -> 0 < L.n -> loadAt E Z t p = r.head?) /\
   ((∃ g,p = .cW g r) \/ ∃ b o,p = .ref b o /\ ∃ u cs ex,Z[b]? = some (.cells u cs ex) /\ o + L.n <= cs.length /\ (cs.drop o).take L.n = r):=by
 have hneg:¬ ((i:Int) < 0):=by omega
 obtain ⟨kd,size,bytes,zero⟩:=si
 replace hk:kd = .sl t:=hk
 subst hk
 rcases h with (⟨rfl,rfl⟩ | ⟨g,rs,full,rfl,ha⟩) | ⟨b,cs,ex,rs,rfl,hb,ha,hc⟩
 ·cases hx
 ·obtain ⟨r,hr,hp⟩:=ha.get i x hx
  have hl:=L.len r x hp
  refine ⟨.cW g r,r,?_,hp,fun hg=>?_,fun hg hn0=>?_,.inl ⟨g,rfl⟩⟩
  ·unfold indexAddr
   simp only [hneg,ZK,hts,ht,b9,hr]
   rw [ZO (by rw [hl,hn]; exact BEq.rfl)]
  ·unfold loadAt
   simp only [ht,hg,ZP]
   rw [ZO (by omega),Z6 (by omega)]
  ·unfold loadAt
   simp only [ht,hg,Z4,ZK]
 ·obtain ⟨r,hr,hp⟩:=ha.get i x hx
  have hi:=(AI.1 hx).1
  have hl:=L.len r x hp
  have hfl:=Lay.flat ha
  have hlen:l.length * L.n <= cs.length:=by
   have:=ZL List.length hc
   rw [ZW,hfl] at this
   omega
  have him:(i + 1) * L.n <= l.length * L.n:=cz _ hi
  rw [fg] at him
  have ho:i * L.n + L.n <= cs.length:=by omega
  have hd:(cs.drop (i * L.n)).take L.n = r:=by
   have:=Cw rs (Lay.lens ha) i r hr
   rw [<- hc,List.drop_take,l7,kg (by omega)] at this
   exact this
  refine ⟨.ref b (i * L.n),r,?_,hp,fun hg=>?_,fun hg hn0=>?_,.inr ⟨b,_,rfl,_,_,_,hb,ho,hd⟩⟩
  ·unfold indexAddr
   simp only [hneg,ZK,hts,ht,b9]
   rw [ZO hi,hn,an]
  ·unfold loadAt
   simp only [ht,hb,hg,ZP]
   rw [hn,ZO ho,hd]
  ·unfold loadAt
   simp only [ht,hb,hg,Z4,ZK]
   rw [<- hd,List.head?_take,ZM (by omega),List.head?_drop]
theorem A8 {ei:Ty} (ht:E.ty t = some ei) (hn:ei.size = L.n) (h:LS L t Z v l):∃ v',aS Z E.ty true v = some v' /\ IS L v' l:=by
 rcases h with h | ⟨b,cs,ex,rs,rfl,hb,ha,hc⟩
 ·exact ⟨v,cN h.bD (cA h.bD),h⟩
 ·have hlen:l.length * L.n <= cs.length:=by
   have:=ZL List.length hc
   rw [ZW,Lay.flat ha] at this
   omega
  obtain ⟨full,e⟩:=BK (g:=true) (n:=l.length) hb ht (by rw [hn]; exact hlen) (fun c hcm=>by
   rw [hn,hc] at hcm
   obtain ⟨r,hr,hcr⟩:=List.mem_flatten.1 hcm
   obtain ⟨x,-,hp⟩:=ha.mem hr
   have:=L.im r x hp c hcr
   exact ⟨this,cA this⟩)
  refine ⟨_,e,.inr ⟨true,rs,full,?_,ha⟩⟩
  rw [hn,hc,<- ha.len,lN rs (Lay.lens ha)]
end
theorem aV {E:Env} {c:Code} {s:List jG} {w:Nat} {Q:X -> Fr -> Sg -> Prop} (I:Nat -> FT -> Sg -> Prop) (n:Nat)
  (step:∀ i F Z,i < n -> I i F Z -> (∀ F' σ',I (i + 1) F' σ' -> R E (.loop c) s ⟨w,F'⟩ σ' Q) -> R E (.loop c) s ⟨w,F⟩ Z Q)
  (fin:∀ F Z,I n F Z -> R E (.loop c) s ⟨w,F⟩ Z Q):∀ (k i:Nat) (F:FT) (Z:Sg),i + k = n -> I i F Z -> R E (.loop c) s ⟨w,F⟩ Z Q:=by
 intro k
 induction k with
 | zero=>intro i F Z e h; rw [jl] at e; subst e; exact fin F Z h
 | succ k ih=>intro i F Z e h; exact step i F Z (by omega) h fun F' σ' h'=>ih (i + 1) F' σ' (by omega) h'
end Go.Ax
end
section
namespace Go.Ax
open Go
section
def bA {α:Type} (L:Lay α) (t:Nat) (Z:Sg) (v:V) (l:List α):Prop:=(v = .aD /\ l = []) \/ ∃ b rs ex,v = .sl b 0 l.length none /\ Z[b]? = some (.cells t rs.flatten ex) /\ eP L.P rs l
def aQ:V -> Option Nat
 | .sl b _ _ _=>some b
 | _=>none
def Sp (Z σ':Sg) (w:V):Prop:=∀ (c:Nat) (o:O),Z[c]? = some o -> aQ w ≠ some c -> σ'[c]? = some o
section
variable {α:Type} {L:Lay α} {E:Env} {Z:Sg} {w x:V} {l m:List α} {t ts:Nat} {si ei:Ty} {ats:Array Nat}
theorem bA.ls (h:bA L t Z w l):LS L t Z w l:=by
 rcases h with h | ⟨b,rs,ex,e,hb,ha⟩
 ·exact .inl (.inl h)
 ·exact .inr ⟨b,_,_,rs,e,hb,ha,Z6 (by rw [Lay.flat ha]; exact Z1 _)⟩
theorem bA.keep {σ':Sg} (h:bA L t Z w l) (k:∀ c o,aQ w = some c -> Z[c]? = some o -> σ'[c]? = some o):bA L t σ' w l:=by
 rcases h with h | ⟨b,rs,ex,rfl,hb,ha⟩
 ·exact .inl h
 ·exact .inr ⟨b,rs,ex,rfl,k b _ rfl hb,ha⟩
theorem bA.app (h:bA L t Z w l) (Y:Sg):bA L t (Z ++ Y) w l:=h.keep fun c o _ e=>by
 rw [Z8 (AI.1 e).1]; exact e
theorem Sp.refl (Z:Sg) (w:V):Sp Z Z w:=fun _ _ h _=>h
theorem dD {a b c:Nat} (h:roomy b c = true) (hab:a <= b):roomy a c = true:=by
 unfold roomy at h ⊢
 rw [IT] at h ⊢
 generalize 281474976710656 = B at h ⊢
 have h2:(2 * a + 256) * (c + 1) <= (2 * b + 256) * (c + 1):=cz _ (Nat.add_le_add_right (Nat.mul_le_mul_left 2 hab) 256)
 exact cm h2 h
theorem DH {a b c:Nat} (h:roomy b c = true) (hab:a <= b):pY a c = true:=by
 unfold roomy at h
 unfold pY
 rw [IT] at h ⊢
 generalize 281474976710656 = B at h ⊢
 have h2:a * (c + 1) <= (2 * b + 256) * (c + 1):=cz _ (by omega)
 exact cm h2 h
theorem gT (hts:E.ty ts = some si) (hk:si.kd = .sl t) (ht:E.ty t = some ei) (hn:ei.size = L.n) (hn0:0 < L.n) (hpl:iR E ats = true) (hats:ats[0]? = some ts) (h:bA L t Z w l) {new:List (List V)}
  (hx:elems Z ei.size x = some (new.flatten,m.length)) (hm:eP L.P new m) (hr:roomy (l.length + m.length) ei.bytes = true) :
  ∃ w' σ',append E Z ats w x = some (w',σ') /\ bA L t σ' w' (l ++ m) /\ Sp Z σ' w /\ Z.length <= σ'.length /\ ∀ b,aQ w' = some b -> aQ w = some b \/ Z.length <= b:=by
 obtain ⟨kd,size,bytes,zero⟩:=si
 replace hk:kd = .sl t:=hk
 subst hk
 have hfm:=Lay.flat hm
 have hne:(ei.size == 0) = false:=by rw [hn]; simp; omega
 have hr2:pY m.length ei.bytes = true:=DH hr (by omega)
 unfold append
 simp only [hats,hts,ht,hpl,hne,hx,aq,ey,Z4,ZK]
 rcases h with ⟨rfl,rfl⟩ | ⟨b,rs,ex,rfl,hbk,ha⟩
 ·by_cases h0:m.length = 0
  ·simp only [h0,ZP]
   obtain rfl:=fq.1 h0
   exact ⟨_,_,rfl,.inl ⟨rfl,rfl⟩,Sp.refl _ _,Z1 _,fun b e=>by cases e⟩
  ·simp only [h0,ZK,hr2,ZP]
   refine ⟨_,_,rfl,.inr ⟨Z.length,new,false,by rw [af],by simp,by rw [af]; exact hm⟩,fun c o e _=>?_,by simp,fun b e=>by cases e; exact .inr (Z1 _)⟩
   rw [Z8 (AI.1 e).1]; exact e
 ·have hfa:=Lay.flat ha
  have hlt:=(AI.1 hbk).1
  have hform:(t == t && decide (l.length * ei.size <= rs.flatten.length) && roomy (l.length + m.length) ei.bytes) = true:=by
   rw [hr,hfa,hn]; simp
  simp only [hbk,an,hform,aq,Z4,ZK]
  by_cases h0:m.length = 0
  ·obtain rfl:=fq.1 h0
   have hnew:new = []:=by
    have:=hm.len
    exact fq.1 (by simpa using this)
   subst hnew
   rw [ZO (by rw [hfa,hn]; simp)]
   refine ⟨_,_,rfl,.inr ⟨b,rs,ex,by simp,?_,by simpa using ha⟩,fun c o e hne=>?_,by simp,fun b e=>.inl e⟩
   ·rw [ZV hlt]
    unfold setCells
    rw [hn,Z6 (by rw [hfa]; exact Z1 _),jm (by rw [hfa]; simp)]
    simp
   ·rw [No (fun e2=>hne (by rw [e2]; rfl))]; exact e
  ·have hbig:¬ (l.length + m.length) * ei.size <= rs.flatten.length:=by
    rw [hfa,hn,l8]
    have:0 < m.length * L.n:=Nat.mul_pos (Nat.pos_of_ne_zero h0) hn0
    omega
   have htk:rs.flatten.take (l.length * ei.size) = rs.flatten:=Z6 (by rw [hfa,hn]; exact Z1 _)
   have hfl:rs.flatten ++ new.flatten = (rs ++ new).flatten:=by simp
   simp only [hbig,ZK,ZP,htk,cn,hfl]
   cases ex with
   | true=>
    refine ⟨_,_,rfl,.inr ⟨Z.length,rs ++ new,false,by simp,by simp,ha.append hm⟩,fun c o e _=>?_,by simp,fun b e=>by cases e; exact .inr (Z1 _)⟩
    rw [Z8 (AI.1 e).1]; exact e
   | false=>
    refine ⟨_,_,rfl,.inr ⟨Z.length,rs ++ new,false,by simp,by simp,ha.append hm⟩,fun c o e hne=>?_,by simp,fun b e=>by cases e; exact .inr (Z1 _)⟩
    have hc:=(AI.1 e).1
    rw [Z8 (by simpa using hc),No (fun e2=>hne (by rw [e2]; rfl))]; exact e
theorem O0 (hts:E.ty ts = some si) (hk:si.kd = .sl t) (ht:E.ty t = some ei) (hn:ei.size = L.n) (hn0:0 < L.n) (hpl:iR E ats = true) (hats:ats[0]? = some ts) {new:List (List V)}
  (hx:elems Z ei.size x = some (new.flatten,m.length)) (hm:eP L.P new m) (hr:pY m.length ei.bytes = true) :
  ∃ w' σ',append E Z ats .aD x = some (w',σ') /\ bA L t σ' w' m:=by
 obtain ⟨kd,size,bytes,zero⟩:=si
 replace hk:kd = .sl t:=hk
 subst hk
 have hne:(ei.size == 0) = false:=by rw [hn]; simp; omega
 unfold append
 simp only [hats,hts,ht,hpl,hne,hx,aq,ey,Z4,ZK]
 by_cases h0:m.length = 0
 ·simp only [h0,ZP]
  obtain rfl:=fq.1 h0
  exact ⟨_,_,rfl,.inl ⟨rfl,rfl⟩⟩
 ·simp only [h0,ZK,hr,ZP]
  exact ⟨_,_,rfl,.inr ⟨Z.length,new,false,rfl,by simp,hm⟩⟩
theorem mN {r:List V} {ex:Bool} {Y:Sg} {n:Nat} (hr:r.length = n):elems (Y ++ [.cells t r ex]) n (.sl Y.length 0 1 none) = some ([r].flatten,1):=by
 unfold elems
 simp [Z6 (Nat.le_of_eq hr),hr]
theorem Du {rs:List (List V)} (h:eP L.P rs l):EM L.n rs = true:=by
 cases h with
 | nil=>rfl
 | cons p _=>show (_ == _) = true; rw [L.len _ _ p]; exact BEq.rfl
theorem kR (ia:IS L x l) (Z:Sg):∃ rs,elems Z L.n x = some (rs.flatten,l.length) /\ eP L.P rs l:=by
 rcases ia with ⟨rfl,rfl⟩ | ⟨g,rs,full,rfl,ha⟩
 ·exact ⟨[],rfl,.nil⟩
 ·exact ⟨rs,by unfold elems; simp only []; rw [ZO (Du ha),ha.len],ha⟩
theorem Oh (ia:LS L t Z x l):∃ rs,elems Z L.n x = some (rs.flatten,l.length) /\ eP L.P rs l:=by
 rcases ia with ia | ⟨b,cs,ex,rs,rfl,hb,ha,hc⟩
 ·exact kR ia Z
 ·refine ⟨rs,?_,ha⟩
  have:l.length * L.n <= cs.length:=by
   have:=ZL List.length hc
   rw [ZW,Lay.flat ha] at this
   omega
  unfold elems
  simp only [hb,an,cn]
  rw [ZO this,hc]
theorem eP.set {β γ:Type} {P:β -> γ -> Prop} {a:List β} {b:List γ} (h:eP P a b) {r:β} {y:γ} (hr:P r y):∀ i,eP P (a.set i r) (b.set i y):=by
 induction h with
 | nil=>intro i; cases i <;> exact .nil
 | cons p q ih=>
  intro i
  cases i with
  | zero=>exact .cons hr q
  | succ i=>exact .cons p (ih i)
theorem BO {sz:Nat}:∀ (rs:List (List V)) (i:Nat) (r:List V),(∀ x ∈ rs,x.length = sz) -> r.length = sz -> i < rs.length -> setCells rs.flatten (i * sz) r = (rs.set i r).flatten
 | [],i,r,_,_,h=>by simp at h
 | y :: rs,0,r,hl,hr,_=>by
  have hy:=hl y (IN ..)
  unfold setCells
  rw [dz,jf,af,an,ij,az,az,hr,<- hy,List.drop_left]
 | y :: rs,i + 1,r,hl,hr,h=>by
  have hy:=hl y (IN ..)
  have ih:=BO rs i r (fun x hx=>hl x (OF _ hx)) hr (by simpa using h)
  unfold setCells at ih ⊢
  rw [jo,az,az,<- ih,fg,List.take_append,List.drop_append,Z6 (by omega),jm (by omega),af,show i * sz + sz - y.length = i * sz by omega,show i * sz + sz + r.length - y.length = i * sz + r.length by omega,ag,ag,ag]
theorem KT (hts:E.ty ts = some si) (hk:si.kd = .sl t) (ht:E.ty t = some ei) (hn:ei.size = L.n) (h:bA L t Z w l) {i:Nat} (hi:i < l.length) {u:V} {y:α} (hu:L.P u.cells y) (hok:u.cells.all V.aZ = true) :
  ∃ b,indexAddr E ts w (.int .i64 (i:Int)) = some (.ref b (i * L.n)) /\ aQ w = some b /\ ∃ σ',storeAt E Z t (.ref b (i * L.n)) u = some σ' /\ bA L t σ' w (l.set i y) /\ Sp Z σ' w /\ σ'.length = Z.length:=by
 obtain ⟨kd,size,bytes,zero⟩:=si
 replace hk:kd = .sl t:=hk
 subst hk
 have hneg:¬ ((i:Int) < 0):=by omega
 rcases h with ⟨rfl,rfl⟩ | ⟨b,rs,ex,rfl,hbk,ha⟩
 ·simp at hi
 ·have hlt:=(AI.1 hbk).1
  have hfa:=Lay.flat ha
  have hul:=L.len _ _ hu
  have him:(i + 1) * L.n <= l.length * L.n:=cz _ hi
  rw [fg] at him
  have hrl:i < rs.length:=by rw [ha.len]; exact hi
  refine ⟨b,?_,rfl,_,?_,.inr ⟨b,rs.set i u.cells,ex,by rw [bq],ZV hlt,ha.set hu i⟩,fun c o e hne=>?_,by simp⟩
  ·unfold indexAddr
   simp only [hneg,ZK,hts,ht,b9,hi,ZP,hn,an]
  ·unfold storeAt
   simp only [ht,hbk]
   rw [ZO (by simp only [hul,hn,hok,jd,BEq.rfl,er,IT]; rw [hfa]; omega),BO rs i u.cells (Lay.lens ha) hul hrl]
  ·rw [No (fun e2=>hne (by rw [e2]; rfl))]; exact e
theorem oI (ht:E.ty t = some ei) (hn:ei.size = L.n) (hF:∀ r x,L.P r x -> ∀ c ∈ r,cH false c = true) (h:bA L t Z w l):∃ v',cK Z E.ty false w = some v' /\ jT L v' l:=by
 rcases h with ⟨rfl,rfl⟩ | ⟨b,rs,ex,rfl,hb,ha⟩
 ·exact ⟨.aD,rfl,.inl ⟨rfl,rfl⟩⟩
 ·have hfl:=Lay.flat ha
  have htk:rs.flatten.take (l.length * L.n) = rs.flatten:=Z6 (by omega)
  obtain ⟨full,e⟩:=BK (g:=false) (n:=l.length) hb ht (by rw [hn]; omega) (fun c hcm=>by
   rw [hn,htk] at hcm
   obtain ⟨r,hr,hcr⟩:=List.mem_flatten.1 hcm
   obtain ⟨x,-,hp⟩:=ha.mem hr
   exact ⟨L.im r x hp c hcr,hF r x hp c hcr⟩)
  refine ⟨_,e,.inr ⟨rs,full,?_,ha⟩⟩
  rw [hn,htk,<- ha.len,lN rs (Lay.lens ha)]
theorem oK {lo hi:Option V} {a b:Nat} (hts:E.ty ts = some si) (hk:si.kd = .sl t) (ht:E.ty t = some ei) (hn:ei.size = L.n) (ia:IS L w l) (hb:hi = none /\ b = l.length \/ hi = some (.int .i64 (b:Int))) (ha:lo = none /\ a = 0 \/ lo = some (.int .i64 (a:Int))) (hab:a <= b) (hbl:b <= l.length) :
  ∃ w',(∀ Z,slice E Z ts w lo hi none = some w') /\ IS L w' ((l.take b).drop a) /\ (jT L w l -> jT L w' ((l.take b).drop a)):=by
 obtain ⟨kd,size,bytes,zero⟩:=si
 replace hk:kd = .sl t:=hk
 subst hk
 have bd:∀ (n d:Nat) (o:Option V) (c:Nat),(o = none /\ c = d \/ o = some (.int .i64 (c:Int))) -> c <= n -> bound n o d = some c:=by
  intro n d o c h hc
  rcases h with ⟨rfl,rfl⟩ | rfl
  ·rfl
  ·unfold bound
   simp only []
   rw [ZO]
   ·rfl
   ·simp only [Z3,IT]; omega
 rcases ia with ⟨rfl,rfl⟩ | ⟨g,rs,full,rfl,hal⟩
 ·have hb0:b = 0:=by simpa using hbl
  subst hb0
  obtain rfl:a = 0:=by omega
  refine ⟨.aD,fun Z=>?_,.inl ⟨rfl,by simp⟩,fun _=>.inl ⟨rfl,by simp⟩⟩
  unfold slice
  simp only [hts,ht,fu,jq]
  rw [show bound 0 none 0 = some 0 from rfl]
  simp only []
  rw [bd 0 0 hi 0 (by rcases hb with ⟨e,_⟩ | e; exact .inl ⟨e,rfl⟩; exact .inr e) (Z1 _)]
  simp only
  rw [bd 0 0 lo 0 ha (Z1 _)]
 ·have hlen:=hal.len
  have hres:eP L.P ((rs.drop a).take (b - a)) ((l.take b).drop a):=by
   rw [show (l.take b).drop a = (l.drop a).take (b - a) by rw [List.drop_take]]
   exact (hal.drop a).take _
  refine ⟨.bS g ((rs.drop a).take (b - a)) (Cs none rs.length b full rs.length),fun Z=>?_,.inr ⟨g,_,_,rfl,hres⟩,fun hF=>.inr ⟨(rs.drop a).take (b - a),Cs none rs.length b full rs.length,?_,hres⟩⟩
  ·unfold slice
   simp only [hts,ht,fu,jq]
   rw [hn,Du hal]
   simp only [aq,Z4,ZK]
   rw [show bound rs.length none rs.length = some rs.length from rfl]
   simp only
   rw [bd rs.length rs.length hi b (by rw [hlen]; exact hb) (by omega)]
   simp only
   rw [bd b 0 lo a ha hab]
  ·rcases hF with ⟨e,-⟩ | ⟨_,_,e,-⟩
   ·cases e
   ·cases e; rfl
end
end
end Go.Ax
end
section
namespace Go.Proofs.YtmhchflckonklaaGreatDoor
open Go Go.Ax Go.AxS
section
structure bH (E:Env):Prop where
 mZ:E.ty 3 = some { kd:=.int .i64,size:=1,bytes:=8,zero:=.int .i64 0 }
 EJ:E.ty 4 = some { kd:=.bool,size:=1,bytes:=1,zero:=.bool false }
 ty5:E.ty 5 = some { kd:=.int .u8,size:=1,bytes:=1,zero:=.int .u8 0 }
 dG:E.ty 9 = some { kd:=.str,size:=1,bytes:=16,zero:=.str [] }
 Bt:E.ty 22 = some { kd:=.sl 46,size:=1,bytes:=24,zero:=.aD }
 kI:E.ty 23 = some { kd:=.sl 51,size:=1,bytes:=24,zero:=.aD }
 a_:E.ty 24 = some { kd:=.sl 9,size:=1,bytes:=24,zero:=.aD }
 Mx:E.ty 40 = some { kd:=.sl 24,size:=1,bytes:=24,zero:=.aD }
 fI:E.ty 44 = some { kd:=.sl 113,size:=1,bytes:=24,zero:=.aD }
 bK:E.ty 46 = some { kd:=.jC [(0,9),(1,24),(2,24),(3,24),(4,44)],size:=5,bytes:=112,zero:=.agg [.str [],.aD,.aD,.aD,.aD] }
 cP:E.ty 51 = some { kd:=.jC [(0,4),(1,9)],size:=2,bytes:=24,zero:=.agg [.bool false,.str []] }
 Mw:E.ty 61 = some { kd:=.sl 99,size:=1,bytes:=24,zero:=.aD }
 ty87:E.ty 87 = some { kd:=.int .i64,size:=1,bytes:=8,zero:=.int .i64 0 }
 FU:E.ty 91 = some { kd:=.map 9 9,size:=1,bytes:=8,zero:=.bU }
 yT:E.ty 99 = some { kd:=.sl 4,size:=1,bytes:=24,zero:=.aD }
 UW:E.ty 101 = some { kd:=.map 9 24,size:=1,bytes:=8,zero:=.bU }
 sP:E.ty 103 = some { kd:=.map 9 4,size:=1,bytes:=8,zero:=.bU }
 My:E.ty 109 = some { kd:=.sl 3,size:=1,bytes:=24,zero:=.aD }
 bN:E.ty 113 = some { kd:=.jC [(0,9),(1,3),(2,24),(3,24),(4,3)],size:=5,bytes:=80,zero:=.agg [.str [],.int .i64 0,.aD,.aD,.int .i64 0] }
 XL:E.hspec 223 = none
 Vb:E.spec 223 = none
 YB:E.fn 223 = some (aA Tryz.f223)
 WO:E.mode 223 = .eW
 XM:E.hspec 222 = none
 Vc:E.spec 222 = none
 YC:E.fn 222 = some (aA Tryz.f222)
 WQ:E.mode 222 = .eW
 XU:E.hspec 185 = none
 Vk:E.spec 185 = none
 YK:E.fn 185 = some (aA Tryz.f185)
 WY:E.mode 185 = .eW
 hs95:E.hspec 95 = none
 sp95:E.spec 95 = none
 fn95:E.fn 95 = some (aA Tryz.f95)
 md95:E.mode 95 = .eW
 XV:E.hspec 184 = none
 Vl:E.spec 184 = none
 YL:E.fn 184 = some (aA Tryz.f184)
 WZ:E.mode 184 = .eW
 X6:E.hspec 151 = none
 Vv:E.spec 151 = none
 YT:E.fn 151 = some (aA Tryz.f151)
 Xa:E.mode 151 = .eW
 X7:E.hspec 150 = none
 Vw:E.spec 150 = none
 YU:E.fn 150 = some (aA Tryz.f150)
 Xb:E.mode 150 = .eW
 Yh:E.hspec 112 = none
 VH:E.spec 112 = none
 Y5:E.fn 112 = some (aA Tryz.f112)
 Xm:E.mode 112 = .eW
 Yg:E.hspec 113 = none
 VG:E.spec 113 = none
 Y4:E.fn 113 = some (aA Tryz.f113)
 Xl:E.mode 113 = .eW
 hs90:E.hspec 90 = none
 sp90:E.spec 90 = none
 fn90:E.fn 90 = some (aA Tryz.f90)
 md90:E.mode 90 = .eW
 hs78:E.hspec 78 = none
 sp78:E.spec 78 = none
 fn78:E.fn 78 = some (aA Tryz.f78)
 md78:E.mode 78 = .eW
 hs91:E.hspec 91 = none
 sp91:E.spec 91 = none
 fn91:E.fn 91 = some (aA Tryz.f91)
 md91:E.mode 91 = .eW
 Yf:E.hspec 114 = none
 VF:E.spec 114 = none
 Y3:E.fn 114 = some (aA Tryz.f114)
 Xk:E.mode 114 = .eW
 hs60:E.hspec 60 = none
 sp60:E.spec 60 = none
 fn60:E.fn 60 = some (aA Tryz.f60)
 md60:E.mode 60 = .eW
 hs59:E.hspec 59 = none
 sp59:E.spec 59 = none
 fn59:E.fn 59 = some (aA Tryz.f59)
 md59:E.mode 59 = .eW
 Yi:E.hspec 111 = none
 VI:E.spec 111 = none
 Y6:E.fn 111 = some (aA Tryz.f111)
 Xn:E.mode 111 = .eW
 hs67:E.hspec 67 = none
 sp67:E.spec 67 = none
 fn67:E.fn 67 = some (aA Tryz.f67)
 md67:E.mode 67 = .shared
 hs12:E.hspec 12 = none
 MS:E.spec 12 = none
 fn12:E.fn 12 = some (aA Tryz.f12)
 md12:E.mode 12 = .eW
 XK:E.hspec 232 = none
 Va:E.spec 232 = none
 YA:E.fn 232 = some (aA Tryz.f232)
 WN:E.mode 232 = .eW
 XF:E.hspec 262 = none
 U6:E.spec 262 = none
 Yv:E.fn 262 = some (aA Tryz.f262)
 WI:E.mode 262 = .eW
 XJ:E.hspec 233 = none
 U_:E.spec 233 = none
 Yz:E.fn 233 = some (aA Tryz.f233)
 WM:E.mode 233 = .eW
 XG:E.hspec 261 = none
 U7:E.spec 261 = none
 Yw:E.fn 261 = some (aA Tryz.f261)
 WJ:E.mode 261 = .eW
 XT:E.hspec 193 = none
 Vj:E.spec 193 = none
 YJ:E.fn 193 = some (aA Tryz.f193)
 WX:E.mode 193 = .eW
 XY:E.hspec 177 = none
 Vo:E.spec 177 = none
 YN:E.fn 177 = some (aA Tryz.f177)
 W5:E.mode 177 = .eW
 X8:E.hspec 144 = none
 Vx:E.spec 144 = none
 YV:E.fn 144 = some (aA Tryz.f144)
 Xc:E.mode 144 = .eW
 XX:E.hspec 178 = none
 Vn:E.spec 178 = none
 YM:E.fn 178 = some (aA Tryz.f178)
 W4:E.mode 178 = .eW
 XS:E.hspec 206 = none
 Vi:E.spec 206 = none
 YI:E.fn 206 = some (aA Tryz.f206)
 WW:E.mode 206 = .eW
 X0:E.hspec 175 = none
 Vq:E.spec 175 = none
 YP:E.fn 175 = some (aA Tryz.f175)
 W7:E.mode 175 = .eW
 XQ:E.hspec 208 = none
 Vg:E.spec 208 = none
 YG:E.fn 208 = some (aA Tryz.f208)
 WU:E.mode 208 = .eW
 XP:E.hspec 209 = none
 Vf:E.spec 209 = none
 YF:E.fn 209 = some (aA Tryz.f209)
 WT:E.mode 209 = .eW
 XZ:E.hspec 176 = none
 Vp:E.spec 176 = none
 YO:E.fn 176 = some (aA Tryz.f176)
 W6:E.mode 176 = .eW
 XO:E.hspec 210 = none
 Ve:E.spec 210 = none
 YE:E.fn 210 = some (aA Tryz.f210)
 WS:E.mode 210 = .eW
 XN:E.hspec 211 = none
 Vd:E.spec 211 = none
 YD:E.fn 211 = some (aA Tryz.f211)
 WR:E.mode 211 = .eW
 X9:E.hspec 143 = none
 Vy:E.spec 143 = none
 YW:E.fn 143 = some (aA Tryz.f143)
 Xd:E.mode 143 = .eW
 Ye:E.hspec 115 = none
 VE:E.spec 115 = none
 Y2:E.fn 115 = some (aA Tryz.f115)
 Xj:E.mode 115 = .eW
 X5:E.hspec 152 = none
 Vu:E.spec 152 = none
 YS:E.fn 152 = some (aA Tryz.f152)
 W_:E.mode 152 = .eW
 X4:E.hspec 153 = none
 Vt:E.spec 153 = none
 YR:E.fn 153 = some (aA Tryz.f153)
 W9:E.mode 153 = .eW
 X2:E.hspec 154 = none
 Vs:E.spec 154 = none
 YQ:E.fn 154 = some (aA Tryz.f154)
 W8:E.mode 154 = .eW
 Yd:E.hspec 116 = none
 VD:E.spec 116 = none
 Y1:E.fn 116 = some (aA Tryz.f116)
 Xi:E.mode 116 = .eW
 hs61:E.hspec 61 = none
 sp61:E.spec 61 = none
 fn61:E.fn 61 = some (aA Tryz.f61)
 md61:E.mode 61 = .eW
 XH:E.hspec 260 = none
 U8:E.spec 260 = none
 Yx:E.fn 260 = some (aA Tryz.f260)
 WK:E.mode 260 = .eW
 XE:E.hspec 296 = none
 U5:E.spec 296 = none
 Yu:E.fn 296 = some (aA Tryz.f296)
 WH:E.mode 296 = .eW
 XD:E.hspec 317 = none
 U3:E.spec 317 = none
 Yt:E.fn 317 = some (aA Tryz.f317)
 WG:E.mode 317 = .eW
 hs76:E.hspec 76 = none
 sp76:E.spec 76 = none
 fn76:E.fn 76 = some (aA Tryz.f76)
 md76:E.mode 76 = .eW
 hs74:E.hspec 74 = none
 sp74:E.spec 74 = none
 fn74:E.fn 74 = some (aA Tryz.f74)
 md74:E.mode 74 = .eW
 XR:E.hspec 207 = none
 Vh:E.spec 207 = none
 YH:E.fn 207 = some (aA Tryz.f207)
 WV:E.mode 207 = .eW
 XI:E.hspec 246 = none
 U9:E.spec 246 = none
 Yy:E.fn 246 = some (aA Tryz.f246)
 WL:E.mode 246 = .eW
 hs94:E.hspec 94 = none
 sp94:E.spec 94 = none
 fn94:E.fn 94 = some (aA Tryz.f94)
 md94:E.mode 94 = .eW
 Ya:E.hspec 128 = none
 VA:E.spec 128 = none
 YY:E.fn 128 = some (aA Tryz.f128)
 Xf:E.mode 128 = .eW
 hs85:E.hspec 85 = none
 sp85:E.spec 85 = none
 fn85:E.fn 85 = some (aA Tryz.f85)
 md85:E.mode 85 = .shared
 Yb:E.hspec 118 = none
 VB:E.spec 118 = none
 YZ:E.fn 118 = some (aA Tryz.f118)
 Xg:E.mode 118 = .shared
 XW:E.hspec 179 = none
 Vm:E.spec 179 = some lE
 X1:E.hspec 155 = none
 Vr:E.spec 155 = some oH
 N7:E.hspec 73 = some (o_ 9)
 T9:aL E (cutAt [1,1,0,1,2,2,1,0,2,1] (aA Tryz.f222).code) = true
 T_:aL E (cutAt [1,0,1,2,2,1,0,2,0] (aA Tryz.f151).code) = true
 Sh:fA E (opsOf (cutAt [1,0] (aA Tryz.f150).code)) = .no
 Tm:cC E .no (opsOf (cutAt [1,0] (aA Tryz.f150).code)) = some [⟨2,4,true,false⟩,  ⟨2,7,true,false⟩,  ⟨2,10,true,false⟩,  ⟨5,7,true,false⟩,  ⟨5,10,true,false⟩,  ⟨8,10,true,false⟩]
 Sf:fA E (opsOf (cutAt [1,1,0,1,2,2,1,0,2,1] (aA Tryz.f150).code)) = .no
 Tl:cC E .no (opsOf (cutAt [1,1,0,1,2,2,1,0,2,1] (aA Tryz.f150).code)) = some [⟨7,10,true,false⟩,  ⟨7,14,true,false⟩,  ⟨8,10,true,false⟩,  ⟨8,14,true,false⟩]
 Ra:aL E (cutAt [1,1,1,0,1,2,2,1,0,2,1,1,0,1,2,2,1,0,2,0] (aA Tryz.f112).code) = true
 Q_:aL E (cutAt [1,1,1,1,0,1,2,2,1,0,2,0] (aA Tryz.f112).code) = true
 T5:aL E (cutAt [1,1,1,1,0,1,2,2,1,0,2,1,2,2,1,0,2,1,2,2,1,0,2] (aA Tryz.f91).code) = true
 Uf:aL E (cutAt [1,1,1,1,0,1,2,2,1,0,2,0] (aA Tryz.f114).code) = true
 Q9:aL E (cutAt [1,1,1,1,1,1,1,1,1,1,1,1,1,1,0,1,2,2,1,0,2,1,0,1,2,2,1,0,2,0] (aA Tryz.f114).code) = true
 Zp:aL E (cutAt [1,0,1,2,2,1,0,2,1,1,0,0] (aA Tryz.f60).code) = true
 T8:aL E (cutAt [1,1,1,0,1,2,2,1,0,2,1,1,1,0,0] (aA Tryz.f60).code) = true
 T7:aL E (cutAt [1,1,1,1,0,1,2,2,1,0,2,1,2,2,1,1,0,2,1,1,0,0] (aA Tryz.f60).code) = true
 T6:aL E (cutAt [1,1,1,1,1,0,1,1,0,0] (aA Tryz.f60).code) = true
 Sj:fA E (opsOf (cutAt [1,0] (aA Tryz.f111).code)) = .no
 To:cC E .no (opsOf (cutAt [1,0] (aA Tryz.f111).code)) = some [⟨1,31,false,true⟩,  ⟨3,31,false,true⟩,  ⟨5,31,false,true⟩,  ⟨6,31,false,true⟩,  ⟨8,31,false,true⟩,  ⟨10,31,false,true⟩,  ⟨12,31,false,true⟩,  ⟨13,31,false,true⟩,  ⟨15,31,false,true⟩,  ⟨17,31,false,true⟩,  ⟨19,31,false,true⟩,  ⟨20,31,false,true⟩,  ⟨22,31,false,true⟩,  ⟨24,31,false,true⟩,  ⟨26,31,false,true⟩,  ⟨27,31,false,true⟩,  ⟨29,31,false,true⟩]
 Si:fA E (opsOf (cutAt [1,1,1,0,1,2,2,1,1,0,2,1] (aA Tryz.f111).code)) = .no
 Tn:cC E .no (opsOf (cutAt [1,1,1,0,1,2,2,1,1,0,2,1] (aA Tryz.f111).code)) = some [⟨4,38,false,true⟩,  ⟨33,38,false,true⟩,  ⟨35,38,false,true⟩]
 UL:fA E (opsOf (cutAt [1,0] (aA Tryz.f67).code)) = .app
 Wl:cC E .app (opsOf (cutAt [1,0] (aA Tryz.f67).code)) = some [⟨1,12,false,true⟩,  ⟨3,12,false,true⟩,  ⟨4,12,false,true⟩,  ⟨6,12,false,true⟩,  ⟨7,12,false,true⟩,  ⟨9,12,false,true⟩,  ⟨10,12,false,true⟩]
 UK:fA E (opsOf (cutAt [1,1,0,1,2,2,1,0,2,1,0] (aA Tryz.f67).code)) = .app
 Wk:cC E .app (opsOf (cutAt [1,1,0,1,2,2,1,0,2,1,0] (aA Tryz.f67).code)) = some []
 US:fA E (opsOf (cutAt [1,1,0,1,2,2,1,1,0,2,1,0] (aA Tryz.f12).code)) = .lit
 Wt:cC E .lit (opsOf (cutAt [1,1,0,1,2,2,1,1,0,2,1,0] (aA Tryz.f12).code)) = some [⟨1,2,true,false⟩]
 Ue:aL E (cutAt [1,0,1,2,2,1,1,0,2,1,1,1,0,0] (aA Tryz.f115).code) = true
 Q8:aL E (cutAt [1,1,1,1,0,1,2,2,1,1,0,2,1,1,0,1,0,0] (aA Tryz.f115).code) = true
 Q7:aL E (cutAt [1,1,1,1,1,0,1,2,2,1,1,0,2,1,1,0,0] (aA Tryz.f115).code) = true
 Pf:fA E (opsOf (cutAt [1,1,1,1,0,1,2,2,1,1,0,2,1,1,1,1] (aA Tryz.f154).code)) = .no
 PV:cC E .no (opsOf (cutAt [1,1,1,1,0,1,2,2,1,1,0,2,1,1,1,1] (aA Tryz.f154).code)) = some [⟨2,4,false,true⟩]
 Zo:aL E (cutAt [1,1,0,1,1,0,0] (aA Tryz.f61).code) = true
 Ud:aL E (cutAt [1,1,0,1,2,2,1,0,2,0] (aA Tryz.f118).code) = true
 Q6:aL E (cutAt [1,1,0,1,2,2,1,0,2,1,0,1,0,1,2,2,1,0,2,0] (aA Tryz.f118).code) = true
def aO:Lay bC:=⟨fun r s=>r = [.str s],1,fun _ _ h=>by rw [h]; rfl,fun _ _ h c hc=>by rw [h] at hc; cases hc with | head=>rfl | tail _ h=>cases h⟩
def eZ:Lay Step:=⟨fun r x=>∃ a l,r = [.str x.out,.int .i64 x.op,a,l,.int .i64 x.n] /\ IS aO a x.args /\ IS aO l x.lits,5,fun _ _ ⟨_,_,h,_⟩=>by rw [h]; rfl,fun _ _ ⟨a,l,h,h1,h2⟩ c hc=>by
 rw [h] at hc
 simp only [By,ZY,bt] at hc
 rcases hc with rfl | rfl | rfl | rfl | rfl
 ·rfl
 ·rfl
 ·exact h1.bD
 ·exact h2.bD
 ·rfl⟩
def eC:Lay aC:=⟨fun r x=>∃ i o a s,r = [.str x.name,i,o,a,s] /\ IS aO i x.ins /\ IS aO o x.outs /\ IS aO a x.after /\ IS eZ s x.steps,5,fun _ _ ⟨_,_,_,_,h,_⟩=>by rw [h]; rfl,fun _ _ ⟨i,o,a,s,h,h1,h2,h3,h4⟩ c hc=>by
 rw [h] at hc
 simp only [By,ZY,bt] at hc
 rcases hc with rfl | rfl | rfl | rfl | rfl
 ·rfl
 ·exact h1.bD
 ·exact h2.bD
 ·exact h3.bD
 ·exact h4.bD⟩
def CR:Lay Bool:=⟨fun r b=>r = [.bool b],1,fun _ _ h=>by rw [h]; rfl,fun _ _ h c hc=>by rw [h] at hc; cases hc with | head=>rfl | tail _ h=>cases h⟩
def tI:Lay (List Bool):=⟨fun r l=>∃ v,r = [v] /\ IS CR v l,1,fun _ _ ⟨_,h,_⟩=>by rw [h]; rfl,fun _ _ ⟨v,h,h1⟩ c hc=>by rw [h] at hc; cases hc with | head=>exact h1.bD | tail _ h=>cases h⟩
section
variable {E:Env} {Z:Sg} {v:V}
theorem fK (h:bH E) {s:bC} {Z:Sg}:lenOf E Z 9 (.str s) = some s.length:=by
 unfold lenOf; rw [h.dG]
theorem IS.at {α:Type} {L:Lay α} {ts t:Nat} {si ei:Ty} {l:List α} (hts:E.ty ts = some si) (hk:si.kd = .sl t) (ht:E.ty t = some ei) (hn:ei.size = L.n) (h:IS L v l) {i:Nat} {x:α} (hx:l[i]? = some x) :
  ∃ g r,indexAddr E ts v (.int .i64 (i:Int)) = some (.cW g r) /\ L.P r x:=by
 obtain ⟨p,r,h1,h2,-,-,⟨g,rfl⟩ | ⟨b,o,rfl,-⟩⟩:=HE (Z:=[]) hts hk ht hn (h.ls [] t) hx
 ·exact ⟨g,r,h1,h2⟩
 ·exfalso
  rcases h with ⟨rfl,rfl⟩ | ⟨g,rs,full,rfl,ha⟩
  ·cases hx
  ·unfold indexAddr at h1
   repeat' (split at h1)
   all_goals first
    | (cases h1; done)
    | contradiction
theorem jL (h:bH E):iR E #[24,24] = true:=by
 show (match E.ty 24 with
  | some xi=>!zP xi.kd
  | none=>false) = true
 rw [h.a_]; rfl
theorem bP (h:bH E) {l} (ia:IS aO v l) (Z:Sg):lenOf E Z 24 v = some l.length:=nM h.a_ rfl (ia.ls Z 9)
theorem RD (h:bH E) {l} (ia:IS aO v l) {i:Nat} {x} (hx:l[i]? = some x):∃ g r,indexAddr E 24 v (.int .i64 (i:Int)) = some (.cW g r) /\ (aO).P r x:=IS.at h.a_ rfl h.dG rfl ia hx
theorem jU (h:bH E) {l} (ha:LS aO 9 Z v l):∃ v',aS Z E.ty true v = some v' /\ IS aO v' l:=A8 h.dG rfl ha
theorem Ap (h:bH E):iR E #[44,44] = true:=by
 show (match E.ty 44 with
  | some xi=>!zP xi.kd
  | none=>false) = true
 rw [h.fI]; rfl
theorem lF (h:bH E) {l} (ia:IS eZ v l) (Z:Sg):lenOf E Z 44 v = some l.length:=nM h.fI rfl (ia.ls Z 113)
theorem OU (h:bH E) {l} (ia:IS eZ v l) {i:Nat} {x} (hx:l[i]? = some x):∃ g r,indexAddr E 44 v (.int .i64 (i:Int)) = some (.cW g r) /\ (eZ).P r x:=IS.at h.fI rfl h.bN rfl ia hx
theorem BG (h:bH E) {l} (ha:LS eZ 113 Z v l):∃ v',aS Z E.ty true v = some v' /\ IS eZ v' l:=A8 h.bN rfl ha
theorem tK (h:bH E):iR E #[22,22] = true:=by
 show (match E.ty 22 with
  | some xi=>!zP xi.kd
  | none=>false) = true
 rw [h.Bt]; rfl
theorem cV (h:bH E) {l} (ia:IS eC v l) (Z:Sg):lenOf E Z 22 v = some l.length:=nM h.Bt rfl (ia.ls Z 46)
theorem OV (h:bH E) {l} (ia:IS eC v l) {i:Nat} {x} (hx:l[i]? = some x):∃ g r,indexAddr E 22 v (.int .i64 (i:Int)) = some (.cW g r) /\ (eC).P r x:=IS.at h.Bt rfl h.bK rfl ia hx
theorem eX (h:bH E) {l} (ha:LS eC 46 Z v l):∃ v',aS Z E.ty true v = some v' /\ IS eC v' l:=A8 h.bK rfl ha
theorem Gt (h:bH E):iR E #[99,99] = true:=by
 show (match E.ty 99 with
  | some xi=>!zP xi.kd
  | none=>false) = true
 rw [h.yT]; rfl
theorem OX (h:bH E) {l} (ia:IS CR v l) {i:Nat} {x} (hx:l[i]? = some x):∃ g r,indexAddr E 99 v (.int .i64 (i:Int)) = some (.cW g r) /\ (CR).P r x:=IS.at h.yT rfl h.EJ rfl ia hx
theorem NP (h:bH E) {l} (ia:IS tI v l) (Z:Sg):lenOf E Z 61 v = some l.length:=nM h.Mw rfl (ia.ls Z 99)
theorem KF (h:bH E) {l} (ia:IS tI v l) {i:Nat} {x} (hx:l[i]? = some x):∃ g r,indexAddr E 61 v (.int .i64 (i:Int)) = some (.cW g r) /\ (tI).P r x:=IS.at h.Mw rfl h.yT rfl ia hx
theorem tS (h:bH E) {g:Bool} {u:V} {r:List V}:loadAt E Z 4 (.cW g (u :: r)) = some u:=by
 unfold loadAt
 rw [h.EJ]
 rfl
theorem rR (h:bH E) {g:Bool} {u:V} {r:List V}:loadAt E Z 9 (.cW g (u :: r)) = some u:=by
 unfold loadAt
 rw [h.dG]
 rfl
theorem J8 (h:bH E) {g:Bool} {u:V} {r:List V}:loadAt E Z 24 (.cW g (u :: r)) = some u:=by
 unfold loadAt
 rw [h.a_]
 rfl
theorem RY (h:bH E) {g:Bool} {v0 v1 v2 v3 v4:V}:loadAt E Z 46 (.cW g [v0,v1,v2,v3,v4]) = some (.agg [v0,v1,v2,v3,v4]):=by
 unfold loadAt
 rw [h.bK]
 rfl
theorem mG (h:bH E) {g:Bool} {u:V} {r:List V}:loadAt E Z 99 (.cW g (u :: r)) = some u:=by
 unfold loadAt
 rw [h.yT]
 rfl
theorem lB:Ax.bytes ⟨#[]⟩ = []:=rfl
theorem LR:Ax.bytes ⟨#[46]⟩ = [46]:=rfl
theorem Rh:Ax.bytes ⟨#[46,46]⟩ = [46,46]:=rfl
theorem CJ:Ax.bytes ⟨#[114,117,108,101]⟩ = [114,117,108,101]:=rfl
theorem Fp:Ax.bytes ⟨#[105,110]⟩ = [105,110]:=rfl
theorem I4:Ax.bytes ⟨#[111,117,116]⟩ = [111,117,116]:=rfl
theorem Om:Ax.bytes ⟨#[97,102,116,101,114]⟩ = [97,102,116,101,114]:=rfl
theorem gI (h:bH E) {l} (ia:IS aO v l) {i:Nat} {x} (hx:l[i]? = some x):∃ g,indexAddr E 24 v (.int .i64 (i:Int)) = some (.cW g [.str x]):=by
 obtain ⟨g,r,e,hr⟩:=RD h ia hx
 exact ⟨g,by rw [e,show r = [.str x] from hr]⟩
theorem uS (h:bH E) {l} (ia:IS eZ v l) {i:Nat} {x} (hx:l[i]? = some x):∃ g a b,indexAddr E 44 v (.int .i64 (i:Int)) = some (.cW g [.str x.out,.int .i64 x.op,a,b,.int .i64 x.n]) /\ IS aO a x.args /\ IS aO b x.lits:=by
 obtain ⟨g,r,e,a,b,hr,h1,h2⟩:=OU h ia hx
 exact ⟨g,a,b,by rw [e,hr],h1,h2⟩
theorem fF (h:bH E) {l} (ia:IS eC v l) {i:Nat} {x} (hx:l[i]? = some x):∃ g a b c d,indexAddr E 22 v (.int .i64 (i:Int)) = some (.cW g [.str x.name,a,b,c,d]) /\ IS aO a x.ins /\ IS aO b x.outs /\ IS aO c x.after /\ IS eZ d x.steps:=by
 obtain ⟨g,r,e,a,b,c,d,hr,h1⟩:=OV h ia hx
 exact ⟨g,a,b,c,d,by rw [e,hr],h1⟩
theorem dB (Z:Sg) (s:bC):aS Z E.ty true (.str s) = some (.str s):=rfl
theorem oJ {α:Type} {L:Lay α} {l:List α} (ia:IS L v l) (Z:Sg):aS Z E.ty true v = some v:=cN ia.bD (cA ia.bD)
def HN (v:V) (x:aC):Prop:=∃ a b c d,v = .agg [.str x.name,a,b,c,d] /\ IS aO a x.ins /\ IS aO b x.outs /\ IS aO c x.after /\ IS eZ d x.steps
def Mj (v:V) (x:Step):Prop:=∃ a b,v = .agg [.str x.out,.int .i64 x.op,a,b,.int .i64 x.n] /\ IS aO a x.args /\ IS aO b x.lits
theorem Ga {cs:List V} (hc:∀ c ∈ cs,Ax.bD c = true) (Z:Sg):aS Z E.ty true (.agg cs) = some (.agg cs):=by
 have e:aW (aS.one Z E.ty true) cs = some cs:=gK fun c hx=>by
  have:=cN (Z:=Z) (ty:=E.ty) (g:=true) (hc c hx) (cA (hc c hx))
  have h2:=hc c hx
  cases c <;> first | exact this | cases h2
 show (match aW (aS.one Z E.ty true) cs with
  | some l=>some (V.agg l)
  | none=>none) = _
 rw [e]
theorem HN.snap {x:aC} (h:HN v x) (Z:Sg):aS Z E.ty true v = some v:=by
 obtain ⟨a,b,c,d,rfl,h1,h2,h3,h4⟩:=h
 refine Ga (fun y hy=>?_) Z
 simp only [By,ZY,bt] at hy
 rcases hy with rfl | rfl | rfl | rfl | rfl
 ·rfl
 ·exact h1.bD
 ·exact h2.bD
 ·exact h3.bD
 ·exact h4.bD
theorem Mj.snap {x:Step} (h:Mj v x) (Z:Sg):aS Z E.ty true v = some v:=by
 obtain ⟨a,b,rfl,h1,h2⟩:=h
 refine Ga (fun y hy=>?_) Z
 simp only [By,ZY,bt] at hy
 rcases hy with rfl | rfl | rfl | rfl | rfl
 ·rfl
 ·rfl
 ·exact h1.bD
 ·exact h2.bD
 ·rfl
theorem iD {a b:bC} (e:a = b):Ax.seq a b = true:=by rw [xC]; exact BY e
theorem gD {a b:bC} (e:a ≠ b):Ax.seq a b = false:=by rw [xC]; exact AS e
theorem dZ {i n:Nat} (h:i < n):decide ((i:Int) < (n:Int)) = true:=BY (by omega)
theorem d_ {i n:Nat} (h:¬ i < n):decide ((i:Int) < (n:Int)) = false:=AS (by omega)
theorem bY (i:Nat) (h:i < 9223372036854775807):wr .i64 ((i:Int) + 1) = ((i + 1:Nat):Int):=by
 rw [yS,ZO]
 ·exact (Int.natCast_succ i).symm
 ·have h1:lo .i64 = -9223372036854775808:=rfl
  have h2:hi .i64 = 9223372036854775807:=rfl
  rw [h1,h2,Z3,IT,IT]
  omega
structure Small (x:aC):Prop where
 ins:x.ins.length <= 10
 outs:x.outs.length <= 6
 after:x.after.length <= 10
 steps:x.steps.length <= 14
 args:∀ s ∈ x.steps,s.args.length <= 8
 lits:∀ s ∈ x.steps,s.lits.length <= 3
structure ZH (x:aC):Prop where
 ins:x.ins.length <= 10
 outs:x.outs.length <= 6
 after:x.after.length <= 10
 steps:x.steps.length <= 14
 args:∀ s ∈ x.steps,s.args.length <= 8796093022208
 lits:∀ s ∈ x.steps,s.lits.length <= 8796093022208
theorem Small.mid {x:aC} (h:Small x):ZH x:=⟨h.ins,h.outs,h.after,h.steps,fun s hs=>by have:=h.args s hs; omega,fun s hs=>by have:=h.lits s hs; omega⟩
def idx:Option Nat -> Int
 | some i=>i
 | none=>-1
theorem fM {α:Type} {p:α -> Bool}:∀ {l:List α},(∀ x ∈ l,p x = false) -> bQ p l = none
 | [],_=>rfl
 | x :: l,h=>by rw [bQ,h x (IN ..),fM fun y hy=>h y (OF _ hy)]; rfl
theorem fL {α:Type} {p:α -> Bool}:∀ {l:List α} {i:Nat} {x:α},(∀ j y,j < i -> l[j]? = some y -> p y = false) -> l[i]? = some x -> p x = true -> bQ p l = some i
 | [],i,x,_,hx,_=>by cases hx
 | y :: l,0,x,_,hx,hp=>by cases hx; rw [bQ,ZO hp]
 | y :: l,i + 1,x,h,hx,hp=>by
  rw [bQ,ZM (by rw [h 0 y (by omega) rfl]; simp),fL (i:=i) (x:=x) (fun j z hj hz=>h (j + 1) z (by omega) hz) hx hp]
  rfl
theorem Ae {α:Type} {p:α -> Bool} {l:List α} (h:∀ j y,j < l.length -> l[j]? = some y -> p y = true):l.all p = true:=by
 rw [bl]; intro x hx
 obtain ⟨i,hi,e⟩:=bu hx
 exact h i x hi (by rw [AT hi,e])
theorem gX {α:Type} {p:α -> Bool} {l:List α} {i:Nat} {x:α} (hx:l[i]? = some x) (hp:p x = false):l.all p = false:=by
 rw [List.all_eq_false]; exact ⟨x,Z2 hx,by simp [hp]⟩
end
end
section
section
variable {E:Env} {Z:Sg} {K:V -> Sg -> Prop}
theorem Uw (h:bH E) {a:V} {l:List bC} {s:bC} (ha:LS aO 9 Z a l) (hsm:l.length <= 4294967296):aB E 95 [a,.str s] Z K = K (.int .i64 (idx (bQ (fun x=>decide (x = s)) l))) Z:=by
 refine aB.of ?_
 obtain ⟨a',ea,ia⟩:=jU h ha
 rw [aH h.hs95 h.sp95 h.fn95 h.md95 (args':=[a',.str s]) (by simp only [aW,ea,dB]),aX (by kernel_rfl)]
 simp only [aA,Tryz.f95,KP,↓reduceIte,reduceLT,reduceAdd,reduceNeg]
 have la:=bP h ia
 refine aV (fun i F Y=>Y = [] /\ F.get 0 = a' /\ F.get 1 = .str s /\ F.get 5 = .int .i64 (i:Int) /\ ∀ j y,j < i -> l[j]? = some y -> y ≠ s) l.length ?_ ?_ l.length 0 _ _ (by omega) ⟨rfl,(iU (by simp +decide only [GS,Z5]) (fun j y hj=>by omega))⟩
 ·rintro i F Y hi ⟨rfl,g0,g1,g5,hp⟩ next
  obtain ⟨x,hx⟩:∃ x,l[i]? = some x:=⟨_,AT hi⟩
  obtain ⟨g,e1⟩:=gI h ia hx
  have hlt:=dZ hi
  have hadd:=bY i (by omega)
  rw [aG]
  by_cases hxs:x = s
  ·have hs:=iD hxs
   simp only [KP,Ax.loadAt,↓reduceIte,reduceEqDiff,reduceLT,reduceCtorEq,reduceNeg,h.dG,g0,g1,g5,la,hlt,e1,hs]
   rw [fL (i:=i) (x:=x) (fun j y hj hy=>AS (hp j y hj hy)) hx (BY hxs)]
   exact rfl
  ·have hs:=gD hxs
   simp only [KP,Ax.loadAt,↓reduceIte,reduceEqDiff,reduceLT,reduceCtorEq,reduceNeg,h.dG,g0,g1,g5,la,hlt,e1,hs,hadd]
   refine next _ _ ⟨rfl,(iU (by simp +decide only [GS,g0,g1,Z5]) (fun j y hj hy=>?_))⟩
   rcases ZZ j i with g | g
   ·exact hp j y g hy
   ·obtain rfl:j = i:=by omega
    rw [hx] at hy; cases hy; exact hxs
 ·rintro F Y ⟨rfl,g0,g1,g5,hp⟩
  have hlt:=d_ (ZT l.length)
  rw [aG]
  simp only [KP,↓reduceIte,reduceEqDiff,reduceLT,reduceCtorEq,reduceNeg,g0,g5,la,hlt]
  rw [fM fun x hx=>by
   obtain ⟨j,hj,e⟩:=bu hx
   exact AS (hp j x hj (by rw [AT hj,e]))]
  exact rfl
theorem rS (h:bH E) {a:V} {l:List bC} {s:bC} (ha:LS aO 9 Z a l) (hsm:l.length <= 4294967296):KC E 95 [a,.str s] Z ((.int .i64 (idx (bQ (fun x=>decide (x = s)) l)))) Z:=dK fun _=>Uw h ha hsm
theorem b_At (h:bH E) {a:V} {l:List aC} {s:bC} (ha:LS eC 46 Z a l) (hsm:l.length <= 4294967296):aB E 90 [a,.str s] Z K = K (.int .i64 (idx (fT l s))) Z:=by
 refine aB.of ?_
 obtain ⟨a',ea,ia⟩:=eX h ha
 rw [aH h.hs90 h.sp90 h.fn90 h.md90 (args':=[a',.str s]) (by simp only [aW,ea,dB]),aX (by kernel_rfl)]
 simp only [aA,Tryz.f90,KP,↓reduceIte,reduceLT,reduceAdd,reduceNeg]
 have la:=cV h ia
 refine aV (fun i F Y=>Y = [] /\ F.get 0 = a' /\ F.get 1 = .str s /\ F.get 5 = .int .i64 (i:Int) /\ ∀ j y,j < i -> l[j]? = some y -> y.name ≠ s) l.length ?_ ?_ l.length 0 _ _ (by omega) ⟨rfl,(iU (by simp +decide only [GS,Z5]) (fun j y hj=>by omega))⟩
 ·rintro i F Y hi ⟨rfl,g0,g1,g5,hp⟩ next
  obtain ⟨x,hx⟩:∃ x,l[i]? = some x:=⟨_,AT hi⟩
  obtain ⟨g,a1,a2,a3,a4,e1,-⟩:=fF h ia hx
  have hlt:=dZ hi
  have hadd:=bY i (by omega)
  rw [aG]
  by_cases hxs:x.name = s
  ·have hs:=iD hxs
   simp only [KP,Ax.loadAt,↓reduceIte,reduceEqDiff,reduceLT,reduceCtorEq,reduceNeg,h.dG,h.bK,g0,g1,g5,la,hlt,e1,hs]
   rw [show fT l s = some i from fL (i:=i) (x:=x) (fun j y hj hy=>AS (hp j y hj hy)) hx (BY hxs)]
   exact rfl
  ·have hs:=gD hxs
   simp only [KP,Ax.loadAt,↓reduceIte,reduceEqDiff,reduceLT,reduceCtorEq,reduceNeg,h.dG,h.bK,g0,g1,g5,la,hlt,e1,hs,hadd]
   refine next _ _ ⟨rfl,(iU (by simp +decide only [GS,g0,g1,Z5]) (fun j y hj hy=>?_))⟩
   rcases ZZ j i with g | g
   ·exact hp j y g hy
   ·obtain rfl:j = i:=by omega
    rw [hx] at hy; cases hy; exact hxs
 ·rintro F Y ⟨rfl,g0,g1,g5,hp⟩
  have hlt:=d_ (ZT l.length)
  rw [aG]
  simp only [KP,↓reduceIte,reduceEqDiff,reduceLT,reduceCtorEq,reduceNeg,g0,g5,la,hlt]
  rw [show fT l s = none from fM fun x hx=>by
   obtain ⟨j,hj,e⟩:=bu hx
   exact AS (hp j x hj (by rw [AT hj,e]))]
  exact rfl
theorem TR (h:bH E) {a:V} {l:List aC} {s:bC} (ha:LS eC 46 Z a l) (hsm:l.length <= 4294967296):KC E 90 [a,.str s] Z ((.int .i64 (idx (fT l s)))) Z:=dK fun _=>b_At h ha hsm
theorem kG {o:Option Nat}:decide ((0:Int) <= idx o) = o.isSome:=by
 cases o with
 | none=>rfl
 | some i=>exact BY (by simp only [idx]; omega)
theorem Cp {o:Option Nat}:decide (idx o < (0:Int)) = o.isNone:=by
 cases o with
 | none=>rfl
 | some i=>exact AS (by simp only [idx]; omega)
theorem cB {α:Type} {p:α -> Bool}:∀ {l:List α},(bQ p l).isSome = l.any p
 | []=>rfl
 | x :: l=>by
  rw [bQ,List.any_cons]
  by_cases hx:p x = true
  ·rw [ZO hx,hx]; rfl
  ·rw [ZM hx,Option.isSome_map,cB]; simp [hx]
theorem any_eq {l:List bC} {s:bC}:(l.any fun x=>decide (x = s)) = decide (s ∈ l):=by
 rw [b8,bp,IT]
 constructor
 ·rintro ⟨x,hx,e⟩; rw [IT] at e; subst e; exact hx
 ·intro hx; exact ⟨s,hx,by simp⟩
theorem Rx (h:bH E) {a:V} {l:List aC} {s:bC} (ha:LS eC 46 Z a l) (ho:∀ x ∈ l,x.outs.length <= 4294967296) (hsm:l.length <= 4294967296):aB E 113 [a,.str s] Z K = K (.int .i64 (idx (fD l s))) Z:=by
 refine aB.of ?_
 obtain ⟨a',ea,ia⟩:=eX h ha
 rw [aH h.Yg h.VG h.Y4 h.Xl (args':=[a',.str s]) (by simp only [aW,ea,dB]),aX (by kernel_rfl)]
 simp only [aA,Tryz.f113,KP,↓reduceIte,reduceLT,reduceAdd,reduceNeg]
 have la:=cV h ia
 refine aV (fun i F Y=>Y = [] /\ F.get 0 = a' /\ F.get 1 = .str s /\ F.get 5 = .int .i64 (i:Int) /\ ∀ j y,j < i -> l[j]? = some y -> s ∉ y.outs) l.length ?_ ?_ l.length 0 _ _ (by omega) ⟨rfl,(iU (by simp +decide only [GS,Z5]) (fun j y hj=>by omega))⟩
 ·rintro i F Y hi ⟨rfl,g0,g1,g5,hp⟩ next
  obtain ⟨x,hx⟩:∃ x,l[i]? = some x:=⟨_,AT hi⟩
  obtain ⟨g,a1,a2,a3,a4,e1,-,h2,-⟩:=fF h ia hx
  have kf:=fun (Y:Sg)=>rS (Z:=Y) h (s:=s) (h2.ls Y 9) (ho x (Z2 hx))
  have hlt:=dZ hi
  have hadd:=bY i (by omega)
  rw [aG]
  by_cases hxs:s ∈ x.outs
  ·have hs:(bQ (fun y=>decide (y = s)) x.outs).isSome = true:=by rw [cB,any_eq]; exact BY hxs
   simp only [KP,Ax.loadAt,↓reduceIte,reduceEqDiff,reduceLT,reduceCtorEq,reduceNeg,h.a_,h.bK,g0,g1,g5,la,hlt,e1,kf,kG,hs]
   rw [show fD l s = some i from fL (i:=i) (x:=x) (fun j y hj hy=>AS (hp j y hj hy)) hx (BY hxs)]
   exact rfl
  ·have hs:(bQ (fun y=>decide (y = s)) x.outs).isSome = false:=by rw [cB,any_eq]; exact AS hxs
   simp only [KP,Ax.loadAt,↓reduceIte,reduceEqDiff,reduceLT,reduceCtorEq,reduceNeg,h.a_,h.bK,g0,g1,g5,la,hlt,e1,kf,kG,hs,hadd]
   refine next _ _ ⟨rfl,(iU (by simp +decide only [GS,g0,g1,Z5]) (fun j y hj hy=>?_))⟩
   rcases ZZ j i with g | g
   ·exact hp j y g hy
   ·obtain rfl:j = i:=by omega
    rw [hx] at hy; cases hy; exact hxs
 ·rintro F Y ⟨rfl,g0,g1,g5,hp⟩
  have hlt:=d_ (ZT l.length)
  rw [aG]
  simp only [KP,↓reduceIte,reduceEqDiff,reduceLT,reduceCtorEq,reduceNeg,g0,g5,la,hlt]
  rw [show fD l s = none from fM fun x hx=>by
   obtain ⟨j,hj,e⟩:=bu hx
   exact AS (hp j x hj (by rw [AT hj,e]))]
  exact rfl
theorem Kg (h:bH E) {a:V} {l:List aC} {s:bC} (ha:LS eC 46 Z a l) (ho:∀ x ∈ l,x.outs.length <= 4294967296) (hsm:l.length <= 4294967296):KC E 113 [a,.str s] Z ((.int .i64 (idx (fD l s)))) Z:=dK fun _=>Rx h ha ho hsm
end
end
section
section
variable {E:Env} {Z:Sg} {K:V -> Sg -> Prop}
theorem Uo (h:bH E) {c:Nat}:aB E 223 [.int .u8 (c:Int)] Z K = K (.bool (sign c)) Z:=by
 refine aB.of ?_
 rw [aH h.XL h.Vb h.YB h.WO (args':=[.int .u8 (c:Int)]) (by simp only [aW,show aS Z E.ty true (.int .u8 (c:Int)) = some (.int .u8 (c:Int)) from rfl]),aX (by kernel_rfl)]
 have hcut:(0 <= c /\ c <= 44) \/ (45 <= c /\ c <= 45) \/ (46 <= c /\ c <= 46) \/ (47 <= c /\ c <= 47) \/ (48 <= c /\ c <= 57) \/ (58 <= c /\ c <= 64) \/ (65 <= c /\ c <= 90) \/ (91 <= c /\ c <= 94) \/ (95 <= c /\ c <= 95) \/ (96 <= c /\ c <= 96) \/ (97 <= c /\ c <= 122) \/ (123 <= c /\ 123 <= c):=by omega
 rcases hcut with ⟨h1,h2⟩ | ⟨h1,h2⟩ | ⟨h1,h2⟩ | ⟨h1,h2⟩ | ⟨h1,h2⟩ | ⟨h1,h2⟩ | ⟨h1,h2⟩ | ⟨h1,h2⟩ | ⟨h1,h2⟩ | ⟨h1,h2⟩ | ⟨h1,h2⟩ | ⟨h1,h2⟩
 ·rw [show sign c = false from by unfold sign; simp; omega]
  have q0:decide ((97:Int) <= (c:Int)) = false:=AS (by omega)
  have q2:decide ((65:Int) <= (c:Int)) = false:=AS (by omega)
  have q4:decide ((48:Int) <= (c:Int)) = false:=AS (by omega)
  have q6:decide ((c:Int) = 46) = false:=AS (by omega)
  have q7:decide ((c:Int) = 95) = false:=AS (by omega)
  have q8:decide ((c:Int) = 45) = false:=AS (by omega)
  simp only [aA,Tryz.f223,KP,↓reduceIte,reduceEqDiff,reduceLT,reduceCtorEq,q0,q2,q4,q6,q7,q8]
  exact rfl
 ·rw [show sign c = true from by unfold sign; simp; omega]
  have q0:decide ((97:Int) <= (c:Int)) = false:=AS (by omega)
  have q2:decide ((65:Int) <= (c:Int)) = false:=AS (by omega)
  have q4:decide ((48:Int) <= (c:Int)) = false:=AS (by omega)
  have q6:decide ((c:Int) = 46) = false:=AS (by omega)
  have q7:decide ((c:Int) = 95) = false:=AS (by omega)
  have q8:decide ((c:Int) = 45) = true:=BY (by omega)
  simp only [aA,Tryz.f223,KP,↓reduceIte,reduceEqDiff,reduceLT,reduceCtorEq,q0,q2,q4,q6,q7,q8]
  exact rfl
 ·rw [show sign c = true from by unfold sign; simp; omega]
  have q0:decide ((97:Int) <= (c:Int)) = false:=AS (by omega)
  have q2:decide ((65:Int) <= (c:Int)) = false:=AS (by omega)
  have q4:decide ((48:Int) <= (c:Int)) = false:=AS (by omega)
  have q6:decide ((c:Int) = 46) = true:=BY (by omega)
  simp only [aA,Tryz.f223,KP,↓reduceIte,reduceEqDiff,reduceLT,reduceCtorEq,q0,q2,q4,q6]
  exact rfl
 ·rw [show sign c = false from by unfold sign; simp; omega]
  have q0:decide ((97:Int) <= (c:Int)) = false:=AS (by omega)
  have q2:decide ((65:Int) <= (c:Int)) = false:=AS (by omega)
  have q4:decide ((48:Int) <= (c:Int)) = false:=AS (by omega)
  have q6:decide ((c:Int) = 46) = false:=AS (by omega)
  have q7:decide ((c:Int) = 95) = false:=AS (by omega)
  have q8:decide ((c:Int) = 45) = false:=AS (by omega)
  simp only [aA,Tryz.f223,KP,↓reduceIte,reduceEqDiff,reduceLT,reduceCtorEq,q0,q2,q4,q6,q7,q8]
  exact rfl
 ·rw [show sign c = true from by unfold sign; simp; omega]
  have q0:decide ((97:Int) <= (c:Int)) = false:=AS (by omega)
  have q2:decide ((65:Int) <= (c:Int)) = false:=AS (by omega)
  have q4:decide ((48:Int) <= (c:Int)) = true:=BY (by omega)
  have q5:decide ((c:Int) <= 57) = true:=BY (by omega)
  simp only [aA,Tryz.f223,KP,↓reduceIte,reduceEqDiff,reduceLT,reduceCtorEq,q0,q2,q4,q5]
  exact rfl
 ·rw [show sign c = false from by unfold sign; simp; omega]
  have q0:decide ((97:Int) <= (c:Int)) = false:=AS (by omega)
  have q2:decide ((65:Int) <= (c:Int)) = false:=AS (by omega)
  have q4:decide ((48:Int) <= (c:Int)) = true:=BY (by omega)
  have q5:decide ((c:Int) <= 57) = false:=AS (by omega)
  have q6:decide ((c:Int) = 46) = false:=AS (by omega)
  have q7:decide ((c:Int) = 95) = false:=AS (by omega)
  have q8:decide ((c:Int) = 45) = false:=AS (by omega)
  simp only [aA,Tryz.f223,KP,↓reduceIte,reduceEqDiff,reduceLT,reduceCtorEq,q0,q2,q4,q5,q6,q7,q8]
  exact rfl
 ·rw [show sign c = true from by unfold sign; simp; omega]
  have q0:decide ((97:Int) <= (c:Int)) = false:=AS (by omega)
  have q2:decide ((65:Int) <= (c:Int)) = true:=BY (by omega)
  have q3:decide ((c:Int) <= 90) = true:=BY (by omega)
  simp only [aA,Tryz.f223,KP,↓reduceIte,reduceEqDiff,reduceLT,reduceCtorEq,q0,q2,q3]
  exact rfl
 ·rw [show sign c = false from by unfold sign; simp; omega]
  have q0:decide ((97:Int) <= (c:Int)) = false:=AS (by omega)
  have q2:decide ((65:Int) <= (c:Int)) = true:=BY (by omega)
  have q3:decide ((c:Int) <= 90) = false:=AS (by omega)
  have q4:decide ((48:Int) <= (c:Int)) = true:=BY (by omega)
  have q5:decide ((c:Int) <= 57) = false:=AS (by omega)
  have q6:decide ((c:Int) = 46) = false:=AS (by omega)
  have q7:decide ((c:Int) = 95) = false:=AS (by omega)
  have q8:decide ((c:Int) = 45) = false:=AS (by omega)
  simp only [aA,Tryz.f223,KP,↓reduceIte,reduceEqDiff,reduceLT,reduceCtorEq,q0,q2,q3,q4,q5,q6,q7,q8]
  exact rfl
 ·rw [show sign c = true from by unfold sign; simp; omega]
  have q0:decide ((97:Int) <= (c:Int)) = false:=AS (by omega)
  have q2:decide ((65:Int) <= (c:Int)) = true:=BY (by omega)
  have q3:decide ((c:Int) <= 90) = false:=AS (by omega)
  have q4:decide ((48:Int) <= (c:Int)) = true:=BY (by omega)
  have q5:decide ((c:Int) <= 57) = false:=AS (by omega)
  have q6:decide ((c:Int) = 46) = false:=AS (by omega)
  have q7:decide ((c:Int) = 95) = true:=BY (by omega)
  simp only [aA,Tryz.f223,KP,↓reduceIte,reduceEqDiff,reduceLT,reduceCtorEq,q0,q2,q3,q4,q5,q6,q7]
  exact rfl
 ·rw [show sign c = false from by unfold sign; simp; omega]
  have q0:decide ((97:Int) <= (c:Int)) = false:=AS (by omega)
  have q2:decide ((65:Int) <= (c:Int)) = true:=BY (by omega)
  have q3:decide ((c:Int) <= 90) = false:=AS (by omega)
  have q4:decide ((48:Int) <= (c:Int)) = true:=BY (by omega)
  have q5:decide ((c:Int) <= 57) = false:=AS (by omega)
  have q6:decide ((c:Int) = 46) = false:=AS (by omega)
  have q7:decide ((c:Int) = 95) = false:=AS (by omega)
  have q8:decide ((c:Int) = 45) = false:=AS (by omega)
  simp only [aA,Tryz.f223,KP,↓reduceIte,reduceEqDiff,reduceLT,reduceCtorEq,q0,q2,q3,q4,q5,q6,q7,q8]
  exact rfl
 ·rw [show sign c = true from by unfold sign; simp; omega]
  have q0:decide ((97:Int) <= (c:Int)) = true:=BY (by omega)
  have q1:decide ((c:Int) <= 122) = true:=BY (by omega)
  simp only [aA,Tryz.f223,KP,↓reduceIte,reduceEqDiff,reduceLT,reduceCtorEq,q0,q1]
  exact rfl
 ·rw [show sign c = false from by unfold sign; simp; omega]
  have q0:decide ((97:Int) <= (c:Int)) = true:=BY (by omega)
  have q1:decide ((c:Int) <= 122) = false:=AS (by omega)
  have q2:decide ((65:Int) <= (c:Int)) = true:=BY (by omega)
  have q3:decide ((c:Int) <= 90) = false:=AS (by omega)
  have q4:decide ((48:Int) <= (c:Int)) = true:=BY (by omega)
  have q5:decide ((c:Int) <= 57) = false:=AS (by omega)
  have q6:decide ((c:Int) = 46) = false:=AS (by omega)
  have q7:decide ((c:Int) = 95) = false:=AS (by omega)
  have q8:decide ((c:Int) = 45) = false:=AS (by omega)
  simp only [aA,Tryz.f223,KP,↓reduceIte,reduceEqDiff,reduceLT,reduceCtorEq,q0,q1,q2,q3,q4,q5,q6,q7,q8]
  exact rfl
theorem TP (h:bH E) {c:Nat}:KC E 223 [.int .u8 (c:Int)] Z (.bool (sign c)) Z:=dK fun _=>Uo h
theorem vS (h:bH E) {v:V} {l:List bC} (ia:IS aO v l) {b:Nat} (hb:b <= l.length):∃ w,(∀ Z,Ax.slice E Z 24 v none (some (.int .i64 (b:Int))) none = some w) /\ IS aO w (l.take b):=by
 obtain ⟨w,h1,h2,-⟩:=oK (lo:=none) (hi:=some (.int .i64 (b:Int))) (a:=0) (b:=b) h.a_ rfl h.dG rfl ia (.inr rfl) (.inl ⟨rfl,rfl⟩) (dc _) hb
 exact ⟨w,h1,by simpa using h2⟩
theorem Bu:∀ {l:List bC} {i:Nat} {x:bC},l[i]? = some x -> x ∈ l.take i -> kJ l = true
 | [],i,x,hx,_=>by cases hx
 | y :: l,0,x,_,h=>by simp at h
 | y :: l,i + 1,x,hx,h=>by
  have hx':l[i]? = some x:=hx
  rw [take_succ_cons,By] at h
  rw [kJ]
  rcases h with h | h
  ·rw [BY (h ▸ Z2 hx')]; rfl
  ·rw [Bu hx' h]; simp
theorem yU:∀ {l:List bC},(∀ (i:Nat) (x:bC),l[i]? = some x -> x ∉ l.take i) -> kJ l = false
 | [],_=>rfl
 | y :: l,h=>by
  rw [kJ,yU fun i x hx hm=>h (i + 1) x hx (by rw [take_succ_cons]; exact OF _ hm)]
  rw [Bool.or_false]
  refine AS fun hy=>?_
  obtain ⟨i,hi,e⟩:=bu hy
  exact h (i + 1) y (by rw [ak,AT hi,e]) (by rw [take_succ_cons]; exact IN ..)
theorem Ro (h:bH E) {a:V} {l:List bC} (ha:LS aO 9 Z a l) (hsm:l.length <= 4294967296):aB E 151 [a] Z K = K (.bool (kJ l)) Z:=by
 refine aB.of ?_
 obtain ⟨a',ea,ia⟩:=jU h ha
 rw [aH h.X6 h.Vv h.YT h.Xa (args':=[a']) (by simp only [aW,ea]),aX (by kernel_rfl)]
 simp only [aA,Tryz.f151,KP,↓reduceIte,reduceLT]
 have la:=bP h ia
 have d4:=h.T_
 simp only [aA,Tryz.f151,cutAt,Z9] at d4
 refine aV (fun i F Y=>Y = [] /\ F.get 0 = a' /\ F.get 3 = .int .i64 (i:Int) /\ ∀ j y,j < i -> l[j]? = some y -> y ∉ l.take j) l.length ?_ ?_ l.length 0 _ _ (by omega) ⟨rfl,(lH (by simp +decide only [GS,Z5]) (fun j y hj=>by omega))⟩
 ·rintro i F Y hi ⟨rfl,g0,g3,hp⟩ next
  obtain ⟨x,hx⟩:∃ x,l[i]? = some x:=⟨_,AT hi⟩
  obtain ⟨g,e1⟩:=gI h ia hx
  obtain ⟨w,e2,iw⟩:=vS h ia (Nat.le_of_lt hi)
  have hlt:=dZ hi
  have hadd:=bY i (by omega)
  have kf:=fun (Y:Sg)=>rS (Z:=Y) h (s:=x) (iw.ls Y 9) (by rw [ZW]; omega)
  rw [aG]
  by_cases hm:x ∈ l.take i
  ·have hs:(bQ (fun y=>decide (y = x)) (l.take i)).isSome = true:=by rw [cB,any_eq]; exact BY hm
   simp only [KP,Ax.loadAt,↓reduceIte,reduceEqDiff,reduceLT,reduceCtorEq,h.dG,g0,g3,la,hlt,aU d4,bM,e1,e2,kf,kG,hs]
   rw [Bu hx hm]
   exact rfl
  ·have hs:(bQ (fun y=>decide (y = x)) (l.take i)).isSome = false:=by rw [cB,any_eq]; exact AS hm
   simp only [KP,Ax.loadAt,↓reduceIte,reduceEqDiff,reduceLT,reduceCtorEq,h.dG,g0,g3,la,hlt,aU d4,bM,e1,e2,kf,kG,hs,hadd]
   refine next _ _ ⟨rfl,(lH (by simp +decide only [GS,g0,Z5]) (fun j y hj hy=>?_))⟩
   rcases ZZ j i with g | g
   ·exact hp j y g hy
   ·obtain rfl:j = i:=by omega
    rw [hx] at hy; cases hy; exact hm
 ·rintro F Y ⟨rfl,g0,g3,hp⟩
  have hlt:=d_ (ZT l.length)
  rw [aG]
  simp only [KP,↓reduceIte,reduceEqDiff,reduceLT,reduceCtorEq,g0,g3,la,hlt]
  rw [yU fun i x hx=>hp i x (AI.1 hx).1 hx]
  exact rfl
theorem Fe (h:bH E) {a:V} {l:List bC} (ha:LS aO 9 Z a l) (hsm:l.length <= 4294967296):KC E 151 [a] Z (.bool (kJ l)) Z:=dK fun _=>Ro h ha hsm
end
end
section
section
variable {E:Env} {Z:Sg} {K:V -> Sg -> Prop}
theorem min2 (k:IntKind) (a b:Int):jQ false k a [.int k b] = some (if b < a then b else a):=rfl
def kQ (x:Step) (A B:Int):Bool:=decide ((x.args.length:Int) = A) && (decide ((x.lits.length:Int) = B) && ((!decide (x.op = 8) || decide (x.lits.head? ≠ some [])) && (decide (0 <= x.n) && (decide (x.n <= 2000) && (decide (x.op = 9) || decide (x.n = 0))))))
theorem Tu (h:bH E) {x:Step} {a b:V} (ia:IS aO a x.args) (ib:IS aO b x.lits) {A B:Int} (h8:x.op = 8 -> (x.lits.length:Int) = B -> x.lits ≠ []) (F:FT) (g1:F.get 1 = .ref 0 0) (g3:F.get 3 = .int .i64 A) (g4:F.get 4 = .int .i64 B) (hk:K (.bool (kQ x A B)) [.cells 113 [.str x.out,.int .i64 x.op,a,b,.int .i64 x.n] true]) :
  R E (cutAt [1,1,1,1] (aA Tryz.f184).code) [] ⟨85,F⟩ [.cells 113 [.str x.out,.int .i64 x.op,a,b,.int .i64 x.n] true] (mE E (aA Tryz.f184).results K):=by
 have la:=bP h ia
 have lb:=bP h ib
 unfold kQ at hk
 by_cases p1:(x.args.length:Int) = A
 case neg=>
  have q1:decide ((x.args.length:Int) = A) = false:=AS p1
  rw [q1] at hk
  simp only [aA,Tryz.f184,KP,Ax.loadAt,↓reduceIte,reduceEqDiff,reduceLT,reduceCtorEq,h.a_,h.bN,cutAt,g1,g3,la,q1]
  exact hk
 have q1:decide ((x.args.length:Int) = A) = true:=BY p1
 by_cases p2:(x.lits.length:Int) = B
 case neg=>
  have q2:decide ((x.lits.length:Int) = B) = false:=AS p2
  rw [q1,q2] at hk
  simp only [aA,Tryz.f184,KP,Ax.loadAt,↓reduceIte,reduceEqDiff,reduceLT,reduceCtorEq,h.a_,h.bN,cutAt,g1,g3,g4,la,lb,q1,q2]
  exact hk
 have q2:decide ((x.lits.length:Int) = B) = true:=BY p2
 have rest:∀ (q3:(!decide (x.op = 8) || decide (x.lits.head? ≠ some [])) = true) (e:x.op = 8 -> ∃ g y,indexAddr E 24 b (.int .i64 0) = some (.cW g [.str y]) /\ Ax.seq y [] = false),R E (cutAt [1,1,1,1] (aA Tryz.f184).code) [] ⟨85,F⟩ [.cells 113 [.str x.out,.int .i64 x.op,a,b,.int .i64 x.n] true] (mE E (aA Tryz.f184).results K):=by
  intro q3 e
  rw [q1,q2,q3] at hk
  have tail:∀ (c8:Bool),decide (x.op = 8) = c8 -> (c8 = true -> ∃ g y,indexAddr E 24 b (.int .i64 0) = some (.cW g [.str y]) /\ Ax.seq y [] = false) -> R E (cutAt [1,1,1,1] (aA Tryz.f184).code) [] ⟨85,F⟩ [.cells 113 [.str x.out,.int .i64 x.op,a,b,.int .i64 x.n] true] (mE E (aA Tryz.f184).results K):=by
   intro c8 hc8 e
   by_cases p4:0 <= x.n
   case neg=>
    have q4:decide (0 <= x.n) = false:=AS p4
    rw [q4] at hk
    cases c8 with
    | false=>
     simp only [aA,Tryz.f184,KP,Ax.loadAt,↓reduceIte,reduceEqDiff,reduceLT,reduceCtorEq,h.mZ,h.a_,h.bN,cutAt,g1,g3,g4,la,lb,q1,q2,hc8,q4]
     exact hk
    | true=>
     obtain ⟨g,y,e1,e2⟩:=e rfl
     simp only [aA,Tryz.f184,KP,Ax.loadAt,↓reduceIte,reduceEqDiff,reduceLT,reduceCtorEq,h.mZ,h.dG,h.a_,h.bN,lB,cutAt,g1,g3,g4,la,lb,q1,q2,hc8,q4,e1,e2]
     exact hk
   have q4:decide (0 <= x.n) = true:=BY p4
   by_cases p5:x.n <= 2000
   case neg=>
    have q5:decide (x.n <= 2000) = false:=AS p5
    rw [q4,q5] at hk
    cases c8 with
    | false=>
     simp only [aA,Tryz.f184,KP,Ax.loadAt,↓reduceIte,reduceEqDiff,reduceLT,reduceCtorEq,h.mZ,h.a_,h.bN,cutAt,g1,g3,g4,la,lb,q1,q2,hc8,q4,q5]
     exact hk
    | true=>
     obtain ⟨g,y,e1,e2⟩:=e rfl
     simp only [aA,Tryz.f184,KP,Ax.loadAt,↓reduceIte,reduceEqDiff,reduceLT,reduceCtorEq,h.mZ,h.dG,h.a_,h.bN,lB,cutAt,g1,g3,g4,la,lb,q1,q2,hc8,q4,q5,e1,e2]
     exact hk
   have q5:decide (x.n <= 2000) = true:=BY p5
   rw [q4,q5] at hk
   by_cases p9:x.op = 9
   ·have q9:decide (x.op = 9) = true:=BY p9
    have q8:decide (x.op = 8) = false:=AS (by omega)
    rw [q9] at hk
    simp only [aA,Tryz.f184,KP,Ax.loadAt,↓reduceIte,reduceEqDiff,reduceLT,reduceCtorEq,h.mZ,h.a_,h.bN,cutAt,g1,g3,g4,la,lb,q1,q2,q8,q4,q5,q9]
    exact hk
   ·have q9:decide (x.op = 9) = false:=AS p9
    by_cases p0:x.n = 0
    ·have q0:decide (x.n = 0) = true:=BY p0
     rw [q9,q0] at hk
     cases c8 with
     | false=>
      simp only [aA,Tryz.f184,KP,Ax.loadAt,↓reduceIte,reduceEqDiff,reduceLT,reduceCtorEq,h.mZ,h.a_,h.bN,cutAt,g1,g3,g4,la,lb,q1,q2,hc8,q4,q5,q9,q0]
      exact hk
     | true=>
      obtain ⟨g,y,e1,e2⟩:=e rfl
      simp only [aA,Tryz.f184,KP,Ax.loadAt,↓reduceIte,reduceEqDiff,reduceLT,reduceCtorEq,h.mZ,h.dG,h.a_,h.bN,lB,cutAt,g1,g3,g4,la,lb,q1,q2,hc8,q4,q5,q9,q0,e1,e2]
      exact hk
    ·have q0:decide (x.n = 0) = false:=AS p0
     rw [q9,q0] at hk
     cases c8 with
     | false=>
      simp only [aA,Tryz.f184,KP,Ax.loadAt,↓reduceIte,reduceEqDiff,reduceLT,reduceCtorEq,h.mZ,h.a_,h.bN,cutAt,g1,g3,g4,la,lb,q1,q2,hc8,q4,q5,q9,q0]
      exact hk
     | true=>
      obtain ⟨g,y,e1,e2⟩:=e rfl
      simp only [aA,Tryz.f184,KP,Ax.loadAt,↓reduceIte,reduceEqDiff,reduceLT,reduceCtorEq,h.mZ,h.dG,h.a_,h.bN,lB,cutAt,g1,g3,g4,la,lb,q1,q2,hc8,q4,q5,q9,q0,e1,e2]
      exact hk
  exact tail _ rfl fun hc=>e (bf hc)
 by_cases p8:x.op = 8
 ·have hne:=h8 p8 p2
  obtain ⟨y,r,hyr⟩:=jr hne
  obtain ⟨g,e1⟩:=gI h ib (i:=0) (x:=y) (by rw [hyr]; rfl)
  by_cases hy:y = []
  ·have e2:=iD hy
   have q8:decide (x.op = 8) = true:=BY p8
   have q3:decide (x.lits.head? ≠ some []) = false:=AS (by rw [hyr,hy]; simp)
   rw [q1,q2,q8,q3] at hk
   have e1:indexAddr E 24 b (.int .i64 0) = some (.cW g [.str y]):=e1
   simp only [aA,Tryz.f184,KP,Ax.loadAt,↓reduceIte,reduceEqDiff,reduceLT,reduceCtorEq,h.mZ,h.dG,h.a_,h.bN,lB,cutAt,g1,g3,g4,la,lb,q1,q2,q8,e1,e2]
   exact hk
  ·refine rest ?_ fun _=>⟨g,y,e1,gD hy⟩
   rw [show decide (x.lits.head? ≠ some []) = true from BY (by rw [hyr]; simpa using hy),Bool.or_true]
 ·exact rest (by rw [show decide (x.op = 8) = false from AS p8]; rfl) fun e=>absurd e p8
theorem P4 (h:bH E) {x:Step} {a b:V} (ia:IS aO a x.args) (ib:IS aO b x.lits) (hsm:x.lits.length <= 4294967296) {A B:Int} (h8:x.op = 8 -> (x.lits.length:Int) = B -> x.lits ≠ []) (F:FT) (g1:F.get 1 = .ref 0 0) (g3:F.get 3 = .int .i64 A) (g4:F.get 4 = .int .i64 B) (g5:F.get 5 = .int .i64 0)
  (hk:K (.bool (x.lits.all (fun l=>decide (l.length <= 100)) && kQ x A B)) [.cells 113 [.str x.out,.int .i64 x.op,a,b,.int .i64 x.n] true]) :
  R E (.loop (cutAt [1,1,1,0,1,2,2] (aA Tryz.f184).code)) [.blk 1,.k (cutAt [1,1,1,1] (aA Tryz.f184).code)] ⟨85,F⟩ [.cells 113 [.str x.out,.int .i64 x.op,a,b,.int .i64 x.n] true] (mE E (aA Tryz.f184).results K):=by
 have lb:=bP h ib
 have key:=fun F g1 g3 g4 hk=>Tu (K:=K) (A:=A) (B:=B) h ia ib h8 F g1 g3 g4 hk
 generalize cutAt [1,1,1,1] (aA Tryz.f184).code = C at key ⊢
 refine aV (fun i F Y=>Y = [.cells 113 [.str x.out,.int .i64 x.op,a,b,.int .i64 x.n] true] /\ F.get 1 = .ref 0 0 /\ F.get 3 = .int .i64 A /\ F.get 4 = .int .i64 B /\ F.get 5 = .int .i64 (i:Int) /\ ∀ j y,j < i -> x.lits[j]? = some y -> y.length <= 100) x.lits.length ?_ ?_ x.lits.length 0 _ _ (by omega) ⟨rfl,g1,g3,g4,g5,fun j y hj=>by omega⟩
 ·rintro i F Y hi ⟨rfl,g1,g3,g4,g5,hp⟩ next
  obtain ⟨y,hy⟩:∃ y,x.lits[i]? = some y:=⟨_,AT hi⟩
  obtain ⟨g,e1⟩:=gI h ib hy
  have hlt:=dZ hi
  have hadd:=bY i (by omega)
  rw [aG]
  by_cases hl:y.length <= 100
  ·have q:decide ((100:Int) < (y.length:Int)) = false:=AS (by omega)
   simp only [aA,Tryz.f184,KP,Ax.loadAt,↓reduceIte,reduceEqDiff,reduceLT,reduceCtorEq,h.dG,h.a_,h.bN,fK h,cutAt,g1,g5,lb,hlt,e1,q,hadd]
   refine next _ _ ⟨rfl,(fE (by simp +decide only [GS,g1,g3,g4,Z5]) (fun j z hj hz=>?_))⟩
   rcases ZZ j i with g | g
   ·exact hp j z g hz
   ·obtain rfl:j = i:=by omega
    rw [hy] at hz; cases hz; exact hl
  ·have q:decide ((100:Int) < (y.length:Int)) = true:=BY (by omega)
   simp only [aA,Tryz.f184,KP,Ax.loadAt,↓reduceIte,reduceEqDiff,reduceLT,reduceCtorEq,h.dG,h.a_,h.bN,fK h,cutAt,g1,g5,lb,hlt,e1,q]
   rw [gX hy (AS hl),jq] at hk
   exact hk
 ·rintro F Y ⟨rfl,g1,g3,g4,g5,hp⟩
  have hlt:=d_ (ZT x.lits.length)
  rw [aG]
  rw [Ae fun j y _ hy=>BY (hp j y (AI.1 hy).1 hy),er] at hk
  simp only [aA,Tryz.f184,KP,Ax.loadAt,↓reduceIte,reduceEqDiff,reduceLT,reduceCtorEq,h.a_,h.bN,cutAt,g1,g5,lb,hlt]
  exact key _ (by simp +decide only [GS,g1]) (by simp +decide only [GS,g3]) (by simp +decide only [GS,g4]) hk
theorem Qd {n:Nat}:decide ((n:Int) = (if (6:Int) < (n:Int) then 6 else (n:Int))) = decide (n <= 6):=by
 by_cases g:(6:Int) < (n:Int)
 ·rw [ZO g,AS (by omega),AS (by omega)]
 ·rw [ZM g,BY rfl,BY (by omega)]
theorem end_1 {x:Step} (e:x.op = 1):(x.lits.all (fun l=>decide (l.length <= 100)) && kQ x 1 0) = cG x:=by
 unfold kQ cG counts
 rw [e]
 skip
 generalize x.lits.all (fun l=>decide (l.length <= 100)) = L
 generalize x.args.length = n
 generalize x.lits.length = m
 generalize x.lits.head? = hd
 generalize x.n = c
 rw [b8]
 by_cases hh:hd = some []
 ·cases L <;> simp [hh] <;> omega
 ·cases L <;> simp [hh] <;> omega
theorem Zj {x:Step} (e:x.op = 2):(x.lits.all (fun l=>decide (l.length <= 100)) && kQ x 1 0) = cG x:=by
 unfold kQ cG counts
 rw [e]
 skip
 generalize x.lits.all (fun l=>decide (l.length <= 100)) = L
 generalize x.args.length = n
 generalize x.lits.length = m
 generalize x.lits.head? = hd
 generalize x.n = c
 rw [b8]
 by_cases hh:hd = some []
 ·cases L <;> simp [hh] <;> omega
 ·cases L <;> simp [hh] <;> omega
theorem Zi {x:Step} (e:x.op = 3):(x.lits.all (fun l=>decide (l.length <= 100)) && kQ x 1 0) = cG x:=by
 unfold kQ cG counts
 rw [e]
 skip
 generalize x.lits.all (fun l=>decide (l.length <= 100)) = L
 generalize x.args.length = n
 generalize x.lits.length = m
 generalize x.lits.head? = hd
 generalize x.n = c
 rw [b8]
 by_cases hh:hd = some []
 ·cases L <;> simp [hh] <;> omega
 ·cases L <;> simp [hh] <;> omega
theorem Zh {x:Step} (e:x.op = 4):(x.lits.all (fun l=>decide (l.length <= 100)) && kQ x 1 0) = cG x:=by
 unfold kQ cG counts
 rw [e]
 skip
 generalize x.lits.all (fun l=>decide (l.length <= 100)) = L
 generalize x.args.length = n
 generalize x.lits.length = m
 generalize x.lits.head? = hd
 generalize x.n = c
 rw [b8]
 by_cases hh:hd = some []
 ·cases L <;> simp [hh] <;> omega
 ·cases L <;> simp [hh] <;> omega
theorem Zc {x:Step} (e:x.op = 9):(x.lits.all (fun l=>decide (l.length <= 100)) && kQ x 1 0) = cG x:=by
 unfold kQ cG counts
 rw [e]
 skip
 generalize x.lits.all (fun l=>decide (l.length <= 100)) = L
 generalize x.args.length = n
 generalize x.lits.length = m
 generalize x.lits.head? = hd
 generalize x.n = c
 rw [b8]
 by_cases hh:hd = some []
 ·cases L <;> simp [hh] <;> omega
 ·cases L <;> simp [hh] <;> omega
theorem Zg {x:Step} (e:x.op = 5):(x.lits.all (fun l=>decide (l.length <= 100)) && kQ x (if (6:Int) < (x.args.length:Int) then 6 else (x.args.length:Int)) 0) = cG x:=by
 unfold kQ cG counts
 rw [e]
 rw [Qd]
 generalize x.lits.all (fun l=>decide (l.length <= 100)) = L
 generalize x.args.length = n
 generalize x.lits.length = m
 generalize x.lits.head? = hd
 generalize x.n = c
 rw [b8]
 by_cases hh:hd = some []
 ·cases L <;> simp [hh] <;> omega
 ·cases L <;> simp [hh] <;> omega
theorem Zf {x:Step} (e:x.op = 6):(x.lits.all (fun l=>decide (l.length <= 100)) && kQ x 0 1) = cG x:=by
 unfold kQ cG counts
 rw [e]
 skip
 generalize x.lits.all (fun l=>decide (l.length <= 100)) = L
 generalize x.args.length = n
 generalize x.lits.length = m
 generalize x.lits.head? = hd
 generalize x.n = c
 rw [b8]
 by_cases hh:hd = some []
 ·cases L <;> simp [hh] <;> omega
 ·cases L <;> simp [hh] <;> omega
theorem Ze {x:Step} (e:x.op = 7):(x.lits.all (fun l=>decide (l.length <= 100)) && kQ x 1 1) = cG x:=by
 unfold kQ cG counts
 rw [e]
 skip
 generalize x.lits.all (fun l=>decide (l.length <= 100)) = L
 generalize x.args.length = n
 generalize x.lits.length = m
 generalize x.lits.head? = hd
 generalize x.n = c
 rw [b8]
 by_cases hh:hd = some []
 ·cases L <;> simp [hh] <;> omega
 ·cases L <;> simp [hh] <;> omega
theorem Zd {x:Step} (e:x.op = 8):(x.lits.all (fun l=>decide (l.length <= 100)) && kQ x 1 2) = cG x:=by
 unfold kQ cG counts
 rw [e]
 skip
 generalize x.lits.all (fun l=>decide (l.length <= 100)) = L
 generalize x.args.length = n
 generalize x.lits.length = m
 generalize x.lits.head? = hd
 generalize x.n = c
 rw [b8]
 by_cases hh:hd = some []
 ·cases L <;> simp [hh] <;> omega
 ·cases L <;> simp [hh] <;> omega
theorem Mb (h:bH E) {v:V} {x:Step} (hv:Mj v x) (hsm:x.lits.length <= 4294967296):aB E 184 [v] Z K = K (.bool (cG x)) Z:=by
 refine aB.of ?_
 have ev:=hv.snap (E:=E) Z
 obtain ⟨a,b,rfl,ia,ib⟩:=hv
 have la:=bP h ia
 rw [aH h.XV h.Vl h.YL h.WZ (args':=[.agg [.str x.out,.int .i64 x.op,a,b,.int .i64 x.n]]) (by simp only [aW,ev]),aX (by kernel_rfl)]
 have hoka:a.aZ = true:=aM ia.bD
 have hokb:b.aZ = true:=aM ib.bD
 by_cases hop:x.op = 1 \/ x.op = 2 \/ x.op = 3 \/ x.op = 4 \/ x.op = 9 \/ x.op = 5 \/ x.op = 6 \/ x.op = 7 \/ x.op = 8
 ·have key:=fun A B h8 F g1 g3 g4 g5 hk=>P4 (K:=fun v σ1=>match cK σ1 E.ty false v with
    | some v=>v = .bool (cG x)
    | none=>False) h ia ib hsm (A:=A) (B:=B) h8 F g1 g3 g4 g5 hk
  generalize hC:cutAt [1,1,1,1] (aA Tryz.f184).code = C at key
  generalize hD:cutAt [1,1,1,0,1,2,2] (aA Tryz.f184).code = D at key
  have e1:(aA Tryz.f184).code = .seq (cutAt [0] (aA Tryz.f184).code) (.seq (cutAt [1,0] (aA Tryz.f184).code) (.seq (cutAt [1,1,0] (aA Tryz.f184).code) (.seq (.seq (cutAt [1,1,1,0,0] (aA Tryz.f184).code) (.block 1 (.loop D))) C))):=by rw [<- hC,<- hD]; rfl
  rw [e1]
  clear e1 hC hD
  rcases hop with e | e | e | e | e | e | e | e | e
  ·have q:∀ k:Int,decide (x.op = k) = decide ((1:Int) = k):=fun k=>by rw [e]
   simp only [aA,Tryz.f184,KP,Ax.loadAt,↓reduceIte,reduceEqDiff,reduceLT,reduceAdd,reduceCtorEq,h.mZ,h.bN,cutAt,q,hoka,hokb]
   refine key 1 0 (fun e8 e9=>?_) _ ?_ ?_ ?_ ?_ ?_
   ·omega
   ·exact (by simp +decide only [GS])
   ·exact (by simp +decide only [GS])
   ·exact (by simp +decide only [GS])
   ·exact (by simp +decide only [GS])
   ·exact ZL V.bool (end_1 e)
  ·have q:∀ k:Int,decide (x.op = k) = decide ((2:Int) = k):=fun k=>by rw [e]
   simp only [aA,Tryz.f184,KP,Ax.loadAt,↓reduceIte,reduceEqDiff,reduceLT,reduceAdd,reduceCtorEq,reduceEq,h.mZ,h.bN,cutAt,q,hoka,hokb]
   refine key 1 0 (fun e8 e9=>?_) _ ?_ ?_ ?_ ?_ ?_
   ·omega
   ·exact (by simp +decide only [GS])
   ·exact (by simp +decide only [GS])
   ·exact (by simp +decide only [GS])
   ·exact (by simp +decide only [GS])
   ·exact ZL V.bool (Zj e)
  ·have q:∀ k:Int,decide (x.op = k) = decide ((3:Int) = k):=fun k=>by rw [e]
   simp only [aA,Tryz.f184,KP,Ax.loadAt,↓reduceIte,reduceEqDiff,reduceLT,reduceAdd,reduceCtorEq,reduceEq,h.mZ,h.bN,cutAt,q,hoka,hokb]
   refine key 1 0 (fun e8 e9=>?_) _ ?_ ?_ ?_ ?_ ?_
   ·omega
   ·exact (by simp +decide only [GS])
   ·exact (by simp +decide only [GS])
   ·exact (by simp +decide only [GS])
   ·exact (by simp +decide only [GS])
   ·exact ZL V.bool (Zi e)
  ·have q:∀ k:Int,decide (x.op = k) = decide ((4:Int) = k):=fun k=>by rw [e]
   simp only [aA,Tryz.f184,KP,Ax.loadAt,↓reduceIte,reduceEqDiff,reduceLT,reduceAdd,reduceCtorEq,reduceEq,h.mZ,h.bN,cutAt,q,hoka,hokb]
   refine key 1 0 (fun e8 e9=>?_) _ ?_ ?_ ?_ ?_ ?_
   ·omega
   ·exact (by simp +decide only [GS])
   ·exact (by simp +decide only [GS])
   ·exact (by simp +decide only [GS])
   ·exact (by simp +decide only [GS])
   ·exact ZL V.bool (Zh e)
  ·have q:∀ k:Int,decide (x.op = k) = decide ((9:Int) = k):=fun k=>by rw [e]
   simp only [aA,Tryz.f184,KP,Ax.loadAt,↓reduceIte,reduceEqDiff,reduceLT,reduceAdd,reduceCtorEq,reduceEq,h.mZ,h.bN,cutAt,q,hoka,hokb]
   refine key 1 0 (fun e8 e9=>?_) _ ?_ ?_ ?_ ?_ ?_
   ·omega
   ·exact (by simp +decide only [GS])
   ·exact (by simp +decide only [GS])
   ·exact (by simp +decide only [GS])
   ·exact (by simp +decide only [GS])
   ·exact ZL V.bool (Zc e)
  ·have q:∀ k:Int,decide (x.op = k) = decide ((5:Int) = k):=fun k=>by rw [e]
   simp only [aA,Tryz.f184,KP,Ax.loadAt,↓reduceIte,reduceEqDiff,reduceLT,reduceAdd,reduceCtorEq,reduceEq,h.mZ,h.a_,h.bN,cutAt,la,q,hoka,hokb,min2]
   refine key (if (6:Int) < (x.args.length:Int) then 6 else (x.args.length:Int)) 0 (fun e8 e9=>?_) _ ?_ ?_ ?_ ?_ ?_
   ·omega
   ·exact (by simp +decide only [GS])
   ·exact (by simp +decide only [GS])
   ·exact (by simp +decide only [GS])
   ·exact (by simp +decide only [GS])
   ·exact ZL V.bool (Zg e)
  ·have q:∀ k:Int,decide (x.op = k) = decide ((6:Int) = k):=fun k=>by rw [e]
   simp only [aA,Tryz.f184,KP,Ax.loadAt,↓reduceIte,reduceEqDiff,reduceLT,reduceAdd,reduceCtorEq,reduceEq,h.mZ,h.bN,cutAt,q,hoka,hokb]
   refine key 0 1 (fun e8 e9=>?_) _ ?_ ?_ ?_ ?_ ?_
   ·omega
   ·exact (by simp +decide only [GS])
   ·exact (by simp +decide only [GS])
   ·exact (by simp +decide only [GS])
   ·exact (by simp +decide only [GS])
   ·exact ZL V.bool (Zf e)
  ·have q:∀ k:Int,decide (x.op = k) = decide ((7:Int) = k):=fun k=>by rw [e]
   simp only [aA,Tryz.f184,KP,Ax.loadAt,↓reduceIte,reduceEqDiff,reduceLT,reduceAdd,reduceCtorEq,reduceEq,h.mZ,h.bN,cutAt,q,hoka,hokb]
   refine key 1 1 (fun e8 e9=>?_) _ ?_ ?_ ?_ ?_ ?_
   ·omega
   ·exact (by simp +decide only [GS])
   ·exact (by simp +decide only [GS])
   ·exact (by simp +decide only [GS])
   ·exact (by simp +decide only [GS])
   ·exact ZL V.bool (Ze e)
  ·have q:∀ k:Int,decide (x.op = k) = decide ((8:Int) = k):=fun k=>by rw [e]
   simp only [aA,Tryz.f184,KP,Ax.loadAt,↓reduceIte,reduceEqDiff,reduceLT,reduceAdd,reduceCtorEq,reduceEq,h.mZ,h.bN,cutAt,q,hoka,hokb]
   refine key 1 2 (fun e8 e9=>?_) _ ?_ ?_ ?_ ?_ ?_
   ·intro e0; rw [e0] at e9; simp at e9
   ·exact (by simp +decide only [GS])
   ·exact (by simp +decide only [GS])
   ·exact (by simp +decide only [GS])
   ·exact (by simp +decide only [GS])
   ·exact ZL V.bool (Zd e)
 ·have q:∀ k:Int,(k = 1 \/ k = 2 \/ k = 3 \/ k = 4 \/ k = 9 \/ k = 5 \/ k = 6 \/ k = 7 \/ k = 8) -> decide (x.op = k) = false:=fun k hk=>AS (fun e=>hop (by rw [e]; exact hk))
  have q1:=q 1 (by simp)
  have q2:=q 2 (by simp)
  have q3:=q 3 (by simp)
  have q4:=q 4 (by simp)
  have q5:=q 5 (by simp)
  have q6:=q 6 (by simp)
  have q7:=q 7 (by simp)
  have q8:=q 8 (by simp)
  have q9:=q 9 (by simp)
  simp only [aA,Tryz.f184,KP,Ax.loadAt,↓reduceIte,reduceEqDiff,reduceLT,reduceAdd,reduceCtorEq,h.mZ,h.bN,hoka,hokb,q1,q2,q3,q4,q5,q6,q7,q8,q9]
  have e:cG x = false:=by
   unfold cG
   rw [AS (by omega)]; rfl
  rw [e]
  exact rfl
theorem LA (h:bH E) {v:V} {x:Step} (hv:Mj v x) (hsm:x.lits.length <= 4294967296):KC E 184 [v] Z (.bool (cG x)) Z:=dK fun _=>Mb h hv hsm
end
end
section
section
variable {E:Env} {Z:Sg} {K:V -> Sg -> Prop}
def sR (l:List bC) (c:Nat):List bC:=if c = 47 then l ++ [[]] else l.set (l.length - 1) ((l[l.length - 1]?).getD [] ++ [c])
theorem yV (c:Nat):∀ s:bC,cI c s ≠ []
 | []=>by simp [cI]
 | a :: r=>by
  rw [cI]
  split
  ·simp
  ·split <;> simp
theorem vY {p:bC} {l:List bC} (hl:l ≠ []) (c:Nat):sR (p :: l) c = p :: sR l c:=by
 obtain ⟨x,r,rfl⟩:=jr hl
 unfold sR
 split
 ·rfl
 ·simp
theorem tE (c:Nat):∀ s:bC,cI 47 (s ++ [c]) = sR (cI 47 s) c
 | []=>by
  by_cases h:c = 47 <;> simp [cI,sR,h]
 | a :: r=>by
  have ih:=tE c r
  rw [bg,cI,cI]
  by_cases h:a = 47
  ·rw [ZO h,ZO h,ih,vY (yV 47 r)]
  ·rw [ZM h,ZM h,ih]
   obtain ⟨p,ps,hp⟩:=jr (yV 47 r)
   rw [hp]
   cases ps with
   | nil=>
    unfold sR
    by_cases hc:c = 47
    ·simp [hc]
    ·simp [hc]
   | cons q qs=>
    have e1:sR (p :: q :: qs) c = p :: sR (q :: qs) c:=vY (by simp) c
    have e2:sR ((a :: p) :: q :: qs) c = (a :: p) :: sR (q :: qs) c:=vY (by simp) c
    rw [e1]
    exact e2.symm
theorem rF (c:Nat):∀ s:bC,(cI c s).length <= s.length + 1
 | []=>Z1 _
 | a :: r=>by
  have ih:=rF c r
  rw [cI]
  split
  ·simp only [Z0]; omega
  ·split
   ·rename_i h; rw [h] at ih; simp only [Z0] at ih ⊢; omega
   ·simp
theorem tF {s:bC}:∀ {P:List bC},cI 47 s = P -> ∀ y ∈ P,y.length <= s.length:=by
 induction s with
 | nil=>intro P hP y hy; subst hP; simp [cI] at hy; subst hy; exact Z1 _
 | cons a r ih=>
  intro P hP y hy
  subst hP
  rw [cI] at hy
  split at hy
  ·rcases By.1 hy with rfl | hy
   ·simp
   ·have:=ih rfl y hy; simp only [Z0]; omega
  ·split at hy
   ·rename_i p ps hp
    rcases By.1 hy with rfl | hy
    ·have:=ih hp p (IN ..); simp only [Z0]; omega
    ·have:=ih hp y (OF _ hy); simp only [Z0]; omega
   ·simp at hy; subst hy; simp
theorem Dp (n:Nat) (h0:0 < n) (h:n < 9223372036854775807):wr .i64 ((n:Int) - 1) = ((n - 1:Nat):Int):=by
 rw [yS,ZO]
 ·omega
 ·have h1:lo .i64 = -9223372036854775808:=rfl
  have h2:hi .i64 = 9223372036854775807:=rfl
  rw [h1,h2,Z3,IT,IT]
  omega
theorem Ki (h:bH E) {s:bC} {i c:Nat} (hc:s[i]? = some c):Ax.index E 9 (.str s) (.int .i64 (i:Int)) = some (.int .u8 (c:Int)):=by
 have hneg:¬ ((i:Int) < 0):=by omega
 unfold Ax.index
 simp only [h.dG,hneg,ZK,b9,hc]
theorem K2 (h:bH E) {s:bC} {i c:Nat} (hc:s[i]? = some c):Ax.slice E Z 9 (.str s) (some (.int .i64 (i:Int))) (some (.int .i64 ((i + 1:Nat):Int))) none = some (.str [c]):=by
 have hi:=(AI.1 hc).1
 have hb:∀ n m:Nat,m <= n -> ∀ d,Ax.bound n (some (.int .i64 (m:Int))) d = some m:=fun n m hm d=>by
  unfold Ax.bound
  simp only []
  rw [ZO (by simp only [Z3,IT]; omega)]
  rfl
 unfold Ax.slice
 simp only [h.dG,fu,Z4,ZK]
 rw [hb s.length (i + 1) hi]
 simp only []
 rw [hb (i + 1) i (by omega)]
 simp only []
 rw [show i + 1 - i = 1 by omega,List.drop_eq_getElem_cons hi]
 have:=(AI.1 hc).2
 rw [this]; rfl
theorem kP (s:bC):Ax.fill (fun j=>some (j * 1,1)) (iA 1 [V.str []]) [(0,V.str s)] = some [.str s]:=rfl
theorem Rv (h:bH E) {s:bC} (hsm:s.length <= 1000000000):aB E 222 [.str s] Z fun v σ'=>σ' = Z /\ jT aO v (cI 47 s):=by
 rw [aH h.XM h.Vc h.YC h.WQ (args':=[.str s]) (by simp only [aW,dB]),aX (by kernel_rfl)]
 simp only [aA,Tryz.f222,KP,↓reduceIte,reduceLT,reduceLeDiff,reduceMul,h.dG,h.a_,lB,kP]
 have d7:=h.T9
 simp only [aA,Tryz.f222,cutAt,Z9] at d7
 refine aV (fun i F Y=>F.get 0 = .str s /\ F.get 4 = .int .i64 (i:Int) /\ ∃ w,F.get 3 = w /\ bA aO 9 Y w (cI 47 (s.take i))) s.length ?_ ?_ s.length 0 _ _ (by omega) (lH (by simp +decide only [GS,Z5]) ⟨.sl 0 0 1 none,(by simp +decide only [GS]),.inr ⟨0,[[.str []]],true,rfl,rfl,.one rfl⟩⟩)
 ·rintro i F Y hi ⟨g0,g4,w,g3,ow⟩ next
  obtain ⟨c,hc⟩:∃ c,s[i]? = some c:=⟨_,AT hi⟩
  have e1:=Ki h hc
  have hlt:=dZ hi
  have hadd:=bY i (by omega)
  have htk:s.take (i + 1) = s.take i ++ [c]:=by rw [bh,hc]; rfl
  have hln:=rF 47 (s.take i)
  have hln2:(s.take i).length <= s.length:=by rw [ZW]; omega
  rw [aG]
  by_cases h47:c = 47
  ·have q:decide ((c:Int) = 47) = true:=BY (by omega)
   obtain ⟨w',τ',ha,ow',-,-,-⟩:=gT (ats:=#[24,24]) (x:=.sl Y.length 0 1 none) (m:=[[]]) (new:=[[.str []]]) h.a_ rfl h.dG rfl (by decide) (jL h) rfl (ow.app [.cells 9 [.str []] true]) (mN rfl) (.one rfl) (dD (b:=1000000002) (by decide) (by simp only [Z0,ZN]; omega))
   simp only [KP,↓reduceIte,reduceEqDiff,reduceLT,reduceLeDiff,reduceMul,reduceCtorEq,h.dG,h.a_,fK h,lB,g0,g3,g4,hlt,e1,q,kP,ha,hadd]
   refine next _ _ (lH (by simp +decide only [GS,g0,Z5]) ⟨w',(by simp +decide only [GS]),?_⟩)
   rw [htk,tE,sR,ZO h47]
   exact ow'
  ·have q:decide ((c:Int) = 47) = false:=AS (by omega)
   have hpos:0 < (cI 47 (s.take i)).length:=ff.2 (yV 47 _)
   generalize hP:cI 47 (s.take i) = P at *
   obtain ⟨y,hy⟩:∃ y,P[P.length - 1]? = some y:=⟨_,AT (by omega)⟩
   have hyl:y.length <= s.length:=by
    have:=tF hP y (Z2 hy)
    omega
   obtain ⟨b,e2,-,τ',e3,ow',-,-⟩:=KT (u:=.str (y ++ [c])) (y:=y ++ [c]) h.a_ rfl h.dG rfl ow (i:=P.length - 1) (by omega) rfl rfl
   obtain ⟨p,r,e4,e5,-,e6,-⟩:=HE (Z:=Y) h.a_ rfl h.dG rfl ow.ls hy
   have e6:=e6 rfl (by decide)
   rw [e2] at e4
   cases e4
   rw [show r = [.str y] from e5] at e6
   have e6:loadAt E Y 9 (.ref b ((P.length - 1) * 1)) = some (.str y):=e6
   have e3:storeAt E Y 9 (.ref b ((P.length - 1) * 1)) (.str (y ++ [c])) = some τ':=e3
   have e2:indexAddr E 24 w (.int .i64 ((P.length - 1:Nat):Int)) = some (.ref b ((P.length - 1) * 1)):=e2
   have lw:∀ Z,lenOf E Z 24 w = some P.length:=fun Z=>by
    rcases ow with ⟨rfl,rfl⟩ | ⟨b,rs,ex,rfl,-⟩
    ·simp at hpos
    ·unfold lenOf; rw [h.a_]
   have hdn:=Dp P.length hpos (by omega)
   have hsl:=fun Z=>K2 (Z:=Z) h hc
   have hcat:decide (y.length <= 9223372036854775806) = true:=BY (by omega)
   simp only [KP,↓reduceIte,reduceEqDiff,reduceLT,reduceLeDiff,reduceCtorEq,fK h,g0,g3,g4,hlt,e1,q,lw,hdn,aU d7,bM,e2,e6,hadd,hsl,hcat,e3]
   refine next _ _ ⟨?_,?_,w,?_,?_⟩
   ·exact (by simp +decide only [GS,g0])
   ·exact (by simp +decide only [GS])
   ·exact (by simp +decide only [GS,g3])
   rw [htk,tE,hP,sR,ZM h47,hy]
   exact ow'
 ·rintro F Y ⟨g0,g4,w,g3,ow⟩
  have hlt:=d_ (ZT s.length)
  rw [aG]
  rw [Z6 (Z1 _)] at ow
  obtain ⟨v',e1,hv⟩:=oI h.dG rfl (fun r x hr c hc=>by rw [show r = [.str x] from hr] at hc; cases hc with | head=>rfl | tail _ h=>cases h) ow
  simp only [KP,↓reduceIte,reduceEqDiff,reduceLT,reduceCtorEq,fK h,g0,g3,g4,hlt,e1]
  exact hv
end
end
section
section
variable {E:Env} {Z:Sg} {K:V -> Sg -> Prop}
theorem Nz {s:bC} (h1:oM s = false) (h2:s.length <= 40):bG s = (cI 47 s).all rK:=by
 unfold bG; rw [h1,BY h2]; simp
theorem zD {p:bC} (h:p = [] \/ p = [46] \/ p = [46,46]):rK p = false:=by
 unfold rK
 rcases h with rfl | rfl | rfl <;> simp
theorem IA {p:bC} (h1:p ≠ []) (h2:p ≠ [46]) (h3:p ≠ [46,46]):rK p = p.all sign:=by
 unfold rK; rw [AS h1,AS h2,AS h3]; simp
theorem Oz (h:bH E) {s:bC}:aB E 185 [.str s] Z K = K (.bool (bG s)) Z:=by
 refine aB.of ?_
 rw [aH h.XU h.Vk h.YK h.WY (args':=[.str s]) (by simp only [aW,dB]),aX (by kernel_rfl)]
 have ls:∀ Z,lenOf E Z 9 (.str s) = some s.length:=fun Z=>fK h
 by_cases h0:s = []
 ·subst h0
  simp only [aA,Tryz.f185,KP,↓reduceIte,reduceEqDiff,reduceLT,reduceCtorEq,Int.reduceLT,fK h]
  exact rfl
 have hl0:0 < s.length:=ff.2 h0
 have q0:decide ((s.length:Int) < 1) = false:=AS (by omega)
 by_cases h40:s.length <= 40
 case neg=>
  have q1:decide ((40:Int) < (s.length:Int)) = true:=BY (by omega)
  simp only [aA,Tryz.f185,KP,↓reduceIte,reduceEqDiff,reduceLT,reduceCtorEq,fK h,q0,q1]
  show V.bool false = _
  unfold bG
  rw [AS h40,Bool.and_false,jq]
 have q1:decide ((40:Int) < (s.length:Int)) = false:=AS (by omega)
 by_cases w3:s = [114,117,108,101]
 ·have e3:=iD w3
  simp only [aA,Tryz.f185,KP,↓reduceIte,reduceEqDiff,reduceLT,reduceCtorEq,fK h,CJ,q0,q1,e3]
  rw [w3]
  exact rfl
 have e3:=gD w3
 by_cases w4:s = [105,110]
 ·have e4:=iD w4
  simp only [aA,Tryz.f185,KP,↓reduceIte,reduceEqDiff,reduceLT,reduceCtorEq,fK h,CJ,Fp,q0,q1,e3,e4]
  rw [w4]
  exact rfl
 have e4:=gD w4
 by_cases w5:s = [111,117,116]
 ·have e5:=iD w5
  simp only [aA,Tryz.f185,KP,↓reduceIte,reduceEqDiff,reduceLT,reduceCtorEq,fK h,CJ,Fp,I4,q0,q1,e3,e4,e5]
  rw [w5]
  exact rfl
 have e5:=gD w5
 by_cases w6:s = [97,102,116,101,114]
 ·have e6:=iD w6
  simp only [aA,Tryz.f185,KP,↓reduceIte,reduceEqDiff,reduceLT,reduceCtorEq,fK h,CJ,Fp,I4,Om,q0,q1,e3,e4,e5,e6]
  rw [w6]
  exact rfl
 have e6:=gD w6
 have hsm:s.length <= 1000000000:=by omega
 have hr:oM s = false:=by unfold oM; rw [AS w3,AS w4,AS w5,AS w6]; rfl
 rw [Nz hr h40]
 simp only [aA,Tryz.f185,KP,↓reduceIte,reduceEqDiff,reduceLT,reduceCtorEq,fK h,CJ,Fp,I4,Om,q0,q1,e3,e4,e5,e6]
 refine aP (Rv h hsm) ?_
 rintro v σ' ⟨rfl,hv⟩
 have iv:=hv.is
 have la:=bP h iv
 have hPl:=rF 47 s
 have hPp:=tF (s:=s) rfl
 generalize cI 47 s = P at *
 simp only [KP,↓reduceIte,reduceLT]
 refine aV (fun i F Y=>Y = [] /\ F.get 3 = v /\ F.get 4 = .int .i64 (i:Int) /\ ∀ j y,j < i -> P[j]? = some y -> rK y = true) P.length ?_ ?_ P.length 0 _ _ (by omega) ⟨rfl,(lH (by simp +decide only [GS,Z5]) (fun j y hj=>by omega))⟩
 ·rintro i F Y hi ⟨rfl,g3,g4,hp⟩ next
  obtain ⟨p,hpi⟩:∃ p,P[i]? = some p:=⟨_,AT hi⟩
  have hpl:=hPp p (Z2 hpi)
  obtain ⟨g,e1⟩:=gI h iv hpi
  have hlt:=dZ hi
  have hadd:=bY i (by omega)
  rw [aG]
  by_cases b1:p = []
  ·have s1:=iD b1
   rw [gX hpi (zD (.inl b1))]
   simp only [KP,Ax.loadAt,↓reduceIte,reduceEqDiff,reduceLT,h.dG,lB,g3,g4,la,hlt,e1,s1]
   exact rfl
  have s1:=gD b1
  by_cases b2:p = [46]
  ·have s2:=iD b2
   rw [gX hpi (zD (.inr (.inl b2)))]
   simp only [KP,Ax.loadAt,↓reduceIte,reduceEqDiff,reduceLT,h.dG,lB,LR,g3,g4,la,hlt,e1,s1,s2]
   exact rfl
  have s2:=gD b2
  by_cases b3:p = [46,46]
  ·have s3:=iD b3
   rw [gX hpi (zD (.inr (.inr b3)))]
   simp only [KP,Ax.loadAt,↓reduceIte,reduceEqDiff,reduceLT,h.dG,lB,LR,Rh,g3,g4,la,hlt,e1,s1,s2,s3]
   exact rfl
  have s3:=gD b3
  simp only [KP,Ax.loadAt,↓reduceIte,reduceEqDiff,reduceLT,h.dG,lB,LR,Rh,g3,g4,la,hlt,e1,s1,s2,s3]
  refine aV (fun k F Y=>Y = [] /\ F.get 3 = v /\ F.get 4 = .int .i64 (i:Int) /\ F.get 5 = .int .i64 (k:Int) /\ ∀ j y,j < k -> p[j]? = some y -> sign y = true) p.length ?_ ?_ p.length 0 _ _ (by omega) ⟨rfl,(iU (by simp +decide only [GS,g3,g4,Z5]) (fun j y hj=>by omega))⟩
  ·rintro k F Y hk ⟨rfl,g3,g4,g5,hq⟩ next2
   obtain ⟨c,hc⟩:∃ c,p[k]? = some c:=⟨_,AT hk⟩
   have e2:=Ki h hc
   have hlt2:=dZ hk
   have hadd2:=bY k (by omega)
   have kf:=fun (Y:Sg)=>TP (Z:=Y) h (c:=c)
   rw [aG]
   by_cases hs:sign c = true
   ·simp only [KP,Ax.loadAt,↓reduceIte,reduceEqDiff,reduceLT,h.dG,fK h,g3,g4,g5,hlt2,e1,e2,kf,hs,hadd2]
    refine next2 _ _ ⟨rfl,(iU (by simp +decide only [GS,g3,g4,Z5]) (fun j y hj hy=>?_))⟩
    rcases ZZ j k with g | g
    ·exact hq j y g hy
    ·obtain rfl:j = k:=by omega
     rw [hc] at hy; cases hy; exact hs
   ·have hs:sign c = false:=by simpa using hs
    rw [gX hpi (by rw [IA b1 b2 b3]; exact gX hc hs)]
    simp only [KP,Ax.loadAt,↓reduceIte,reduceEqDiff,reduceLT,h.dG,fK h,g3,g4,g5,hlt2,e1,e2,kf,hs]
    exact rfl
  ·rintro F Y ⟨rfl,g3,g4,g5,hq⟩
   have hlt2:=d_ (ZT p.length)
   rw [aG]
   simp only [KP,Ax.loadAt,↓reduceIte,reduceEqDiff,reduceLT,h.dG,fK h,g3,g4,g5,hlt2,e1,hadd]
   refine next _ _ ⟨rfl,(lH (by simp +decide only [GS,g3,Z5]) (fun j y hj hy=>?_))⟩
   rcases ZZ j i with g | g
   ·exact hp j y g hy
   ·obtain rfl:j = i:=by omega
    rw [hpi] at hy; cases hy
    rw [IA b1 b2 b3]
    exact Ae fun j y _ hy=>hq j y (AI.1 hy).1 hy
 ·rintro F Y ⟨rfl,g3,g4,hp⟩
  have hlt:=d_ (ZT P.length)
  rw [aG]
  rw [Ae fun j y _ hy=>hp j y (AI.1 hy).1 hy]
  simp only [KP,↓reduceIte,reduceEqDiff,reduceLT,g3,g4,la,hlt]
  exact rfl
theorem NX (h:bH E) {s:bC}:KC E 185 [.str s] Z (.bool (bG s)) Z:=dK fun _=>Oz h
end
end
section
section
variable {E:Env} {Z:Sg} {K:V -> Sg -> Prop}
theorem pJ {f:V -> V -> Bool}:∀ {l:List V},(∀ x ∈ l,f x x = true) -> q_ f l l = true
 | [],_=>rfl
 | x :: l,h=>by
  show (f x x && q_ f l l) = true
  rw [h x (IN ..),pJ fun y hy=>h y (OF _ hy)]; rfl
theorem CU {f:List V -> List V -> Bool}:∀ {l:List (List V)},(∀ x ∈ l,f x x = true) -> q_ f l l = true
 | [],_=>rfl
 | x :: l,h=>by
  show (f x x && q_ f l l) = true
  rw [h x (IN ..),CU fun y hy=>h y (OF _ hy)]; rfl
theorem Ia {α:Type} {L:Lay α} (n:Nat) (hL:∀ r x,L.P r x -> ∀ c ∈ r,sO n c c = true) {v:V} {l:List α} (h:IS L v l):sO (n + 1) v v = true:=by
 rcases h with ⟨rfl,-⟩ | ⟨g,rs,full,rfl,ha⟩
 ·rfl
 ·show (g == g && q_ (q_ (sO n)) rs rs && full == full) = true
  rw [CU fun r hr=>?_]
  ·simp
  ·obtain ⟨x,-,hp⟩:=ha.mem hr
   exact pJ (hL r x hp)
theorem wR (n:Nat) (s:bC):sO (n + 1) (.str s) (.str s) = true:=iD rfl
theorem Jn (n:Nat) (k:IntKind) (i:Int):sO (n + 1) (.int k i) (.int k i) = true:=by
 show (decide (k = k) && decide (i = i)) = true
 simp
theorem cF {v:V} {l:List bC} (n:Nat) (h:IS aO v l):sO (n + 2) v v = true:=Ia (n + 1) (fun r x hr c hc=>by
 rw [show r = [.str x] from hr] at hc
 cases hc with
 | head=>exact wR n x
 | tail _ h=>cases h) h
theorem oD {v:V} {l:List AxS.Step} (n:Nat) (h:IS eZ v l):sO (n + 3) v v = true:=Ia (n + 2) (fun r x hr c hc=>by
 obtain ⟨a,b,rfl,h1,h2⟩:=hr
 simp only [By,ZY,bt] at hc
 rcases hc with rfl | rfl | rfl | rfl | rfl
 ·exact wR (n + 1) _
 ·exact Jn (n + 1) _ _
 ·exact cF n h1
 ·exact cF n h2
 ·exact Jn (n + 1) _ _) h
theorem yM (h:bH E) {Y:Sg} {w v:V} {l m:List bC} (ow:bA aO 9 Y w l) (iv:IS aO v m) (hb:l.length + m.length <= 1000000000):∃ w' τ',Ax.append E Y #[24,24] w v = some (w',τ') /\ bA aO 9 τ' w' (l ++ m) /\ Sp Y τ' w /\ Y.length <= τ'.length /\ ∀ b,aQ w' = some b -> aQ w = some b \/ Y.length <= b:=by
 obtain ⟨rs,e,ha⟩:=kR iv Y
 exact gT h.a_ rfl h.dG rfl (by decide) (jL h) rfl ow e ha (dD (b:=1000000000) (by decide) hb)
theorem Fx (h:bH E) {Y:Sg} {w:V} {l:List bC} {s:bC} {ex:Bool} (ow:bA aO 9 Y w l) (hb:l.length <= 1000000000):∃ w' τ',Ax.append E (Y ++ [.cells 9 [.str s] ex]) #[24,24] w (.sl Y.length 0 1 none) = some (w',τ') /\ bA aO 9 τ' w' (l ++ [s]) /\ Sp (Y ++ [.cells 9 [.str s] ex]) τ' w /\ Y.length <= τ'.length:=by
 obtain ⟨w',τ',h1,h2,h3,h4,-⟩:=gT (m:=[s]) (new:=[[.str s]]) h.a_ rfl h.dG rfl (by decide) (jL h) rfl (ow.app [.cells 9 [.str s] ex]) (mN rfl) (.one rfl) (dD (b:=1000000001) (by decide) (by simp only [Z0,ZN]; omega))
 exact ⟨w',τ',h1,h2,h3,by simp only [Z7,Z0,ZN] at h4; omega⟩
theorem QA (h:bH E) {x:aC} {a b c d:V} (ia:IS aO a x.ins) (ib:IS aO b x.outs) (ic:IS aO c x.after) (hsm:x.ins.length <= 100000000 /\ x.outs.length <= 100000000 /\ x.after.length <= 100000000) (F:FT) (g1:F.get 1 = .ref 0 0) (g2:F.get 2 = .bool false) :
  ∃ F' Y w,cE E (ev E 0) (opsOf (cutAt [1,0] (aA Tryz.f150).code)) ⟨64,F⟩ [.cells 46 [.str x.name,a,b,c,d] true] = some (⟨64,F'⟩,Y) /\ F'.get 1 = .ref 0 0 /\ F'.get 3 = w /\ Y[0]? = some (.cells 46 [.str x.name,a,b,c,d] true) /\ bA aO 9 Y w (x.name :: (x.ins ++ (x.outs ++ x.after))) /\ aQ w ≠ some 0:=by
 have o0:bA aO 9 [.cells 46 [.str x.name,a,b,c,d] true,.cells 9 [.str x.name] true] (.sl 1 0 1 none) [x.name]:=.inr ⟨1,[[.str x.name]],true,rfl,rfl,.one rfl⟩
 obtain ⟨w1,τ1,ha1,o1,k1,n1,-⟩:=yM h o0 ia (by simp only [Z0,ZN]; omega)
 obtain ⟨w2,τ2,ha2,o2,k2,n2,-⟩:=yM h o1 ib (by simp only [Z7,Z0,ZN]; omega)
 obtain ⟨w3,τ3,ha3,o3,k3,n3,-⟩:=yM h o2 ic (by simp only [Z7,Z0,ZN]; omega)
 have b1:τ1[0]? = some (.cells 46 [.str x.name,a,b,c,d] true):=k1 0 _ rfl (by show some 1 ≠ some 0; simp)
 have nb:∀ {Y:Sg} {w:V} {l:List bC},Y[0]? = some (.cells 46 [.str x.name,a,b,c,d] true) -> bA aO 9 Y w l -> aQ w ≠ some 0:=by
  rintro Y w l hb (⟨rfl,-⟩ | ⟨b,rs,ex,rfl,hc,-⟩) e
  ·cases e
  ·cases e; rw [hb] at hc; cases hc
 have b2:τ2[0]? = some (.cells 46 [.str x.name,a,b,c,d] true):=k2 0 _ b1 (nb b1 o1)
 have b3:τ3[0]? = some (.cells 46 [.str x.name,a,b,c,d] true):=k3 0 _ b2 (nb b2 o2)
 have va:=cF 10 ia
 have vb:=cF 10 ib
 have vc:=cF 10 ic
 unfold cE
 rw [h.Sh,h.Tm]
 simp only [aA,Tryz.f150,KP,Ax.loadAt,↓reduceIte,reduceEqDiff,reduceLT,reduceLeDiff,reduceAdd,reduceMul,reduceCtorEq,h.dG,h.a_,h.bK,opsOf,cutAt,Fz.lits,Fz.apps,gL,bF,b_,jW,Ax.comp,Ax.last,gH,Ax.again,g1,kP,ha1,ha2,ha3,b1,b2,va,vb,vc]
 refine ⟨_,_,w3,rfl,(lH (by simp +decide only [GS,g1,Z5]) ⟨b3,?_,nb b3 o3⟩)⟩
 have e:[x.name] ++ x.ins ++ x.outs ++ x.after = x.name :: (x.ins ++ (x.outs ++ x.after)):=by simp
 rw [<- e]
 exact o3
theorem Qz (h:bH E) {x:aC} {a b c d:V} (id:IS eZ d x.steps) {st:AxS.Step} {i:Nat} (hi:x.steps[i]? = some st) {Y:Sg} {w:V} {l:List bC} (b0:Y[0]? = some (.cells 46 [.str x.name,a,b,c,d] true)) (ow:bA aO 9 Y w l) (nw:aQ w ≠ some 0) (hsm:l.length <= 500000000 /\ st.args.length <= 100000000)
  (F:FT) (g1:F.get 1 = .ref 0 0) (g3:F.get 3 = w) (g4:F.get 4 = .int .i64 (i:Int)) :
  ∃ F' τ' w',cE E (ev E 0) (opsOf (cutAt [1,1,0,1,2,2,1,0,2,1] (aA Tryz.f150).code)) ⟨64,F⟩ Y = some (⟨64,F'⟩,τ') /\ F'.get 1 = .ref 0 0 /\ F'.get 3 = w' /\ F'.get 4 = .int .i64 (i:Int) /\ τ'[0]? = some (.cells 46 [.str x.name,a,b,c,d] true) /\ bA aO 9 τ' w' (l ++ st.out :: st.args) /\ aQ w' ≠ some 0:=by
 obtain ⟨g,p,q,e1,ip,iq⟩:=uS h id hi
 obtain ⟨w1,τ1,ha1,o1,k1,n1⟩:=Fx (s:=st.out) (ex:=true) h ow (by omega)
 obtain ⟨w2,τ2,ha2,o2,k2,n2,-⟩:=yM h o1 ip (by simp only [Z7,Z0,ZN]; omega)
 have b0':(Y ++ [O.cells 9 [.str st.out] true])[0]? = some (.cells 46 [.str x.name,a,b,c,d] true):=by rw [Z8 (AI.1 b0).1]; exact b0
 have nb:∀ {Y:Sg} {w:V} {l:List bC},Y[0]? = some (.cells 46 [.str x.name,a,b,c,d] true) -> bA aO 9 Y w l -> aQ w ≠ some 0:=by
  rintro Y w l hb (⟨rfl,-⟩ | ⟨b,rs,ex,rfl,hc,-⟩) e
  ·cases e
  ·cases e; rw [hb] at hc; cases hc
 have b1:τ1[0]? = some (.cells 46 [.str x.name,a,b,c,d] true):=k1 0 _ b0' nw
 have b2:τ2[0]? = some (.cells 46 [.str x.name,a,b,c,d] true):=k2 0 _ b1 (nb b1 o1)
 have va:=cF 10 ip
 have vd:=oD 9 id
 unfold cE
 rw [h.Sf,h.Tl]
 simp only [aA,Tryz.f150,KP,Ax.loadAt,↓reduceIte,reduceEqDiff,reduceLT,reduceLeDiff,reduceAdd,reduceMul,reduceCtorEq,h.dG,h.a_,h.fI,h.bK,h.bN,opsOf,cutAt,Fz.lits,Fz.apps,gL,bF,b_,jW,Ax.comp,Ax.last,gH,Ax.again,g1,g3,g4,kP,ha1,ha2,b0,b0',b1,e1,va,vd]
 refine ⟨_,_,w2,rfl,(iU (by simp +decide only [GS,g1,g4,Z5]) ⟨b2,?_,nb b2 o2⟩)⟩
 have e:l ++ [st.out] ++ st.args = l ++ st.out :: st.args:=by simp
 rw [<- e]
 exact o2
theorem QC (h:bH E) {x:aC} {a b c d:V} (ia:IS aO a x.ins) (ib:IS aO b x.outs) (ic:IS aO c x.after) (hsm:x.ins.length <= 100000000 /\ x.outs.length <= 100000000 /\ x.after.length <= 100000000) (F:FT) (g1:F.get 1 = .ref 0 0) (g2:F.get 2 = .bool false) {s:List jG} {Q:Ax.X -> Fr -> Sg -> Prop}
  (hk:∀ F' Y w,F'.get 1 = .ref 0 0 -> F'.get 3 = w -> Y[0]? = some (.cells 46 [.str x.name,a,b,c,d] true) -> bA aO 9 Y w (x.name :: (x.ins ++ (x.outs ++ x.after))) -> aQ w ≠ some 0 -> M E s .normal ⟨64,F'⟩ Y Q):R E (.region 1 (opsOf (cutAt [1,0] (aA Tryz.f150).code)) true) s ⟨64,F⟩ [.cells 46 [.str x.name,a,b,c,d] true] Q:=by
 obtain ⟨F',Y,w,hE,h1,h2,h3,h4,h5⟩:=QA h ia ib ic hsm F g1 g2 (d:=d)
 exact Eq.mpr (gP hE) (hk F' Y w h1 h2 h3 h4 h5)
theorem QB (h:bH E) {x:aC} {a b c d:V} (id:IS eZ d x.steps) {st:AxS.Step} {i:Nat} (hi:x.steps[i]? = some st) {Y:Sg} {w:V} {l:List bC} (b0:Y[0]? = some (.cells 46 [.str x.name,a,b,c,d] true)) (ow:bA aO 9 Y w l) (nw:aQ w ≠ some 0) (hsm:l.length <= 500000000 /\ st.args.length <= 100000000)
  (F:FT) (g1:F.get 1 = .ref 0 0) (g3:F.get 3 = w) (g4:F.get 4 = .int .i64 (i:Int)) {s:List jG} {Q:Ax.X -> Fr -> Sg -> Prop}
  (hk:∀ F' τ' w',F'.get 1 = .ref 0 0 -> F'.get 3 = w' -> F'.get 4 = .int .i64 (i:Int) -> τ'[0]? = some (.cells 46 [.str x.name,a,b,c,d] true) -> bA aO 9 τ' w' (l ++ st.out :: st.args) -> aQ w' ≠ some 0 -> M E s .normal ⟨64,F'⟩ τ' Q) :
  R E (.region 7 (opsOf (cutAt [1,1,0,1,2,2,1,0,2,1] (aA Tryz.f150).code)) true) s ⟨64,F⟩ Y Q:=by
 obtain ⟨F',τ',w',hE,h1,h2,h3,h4,h5,h6⟩:=Qz h id hi b0 ow nw hsm F g1 g3 g4
 exact Eq.mpr (gP hE) (hk F' τ' w' h1 h2 h3 h4 h5 h6)
end
end
section
section
variable {E:Env} {Z:Sg} {K:V -> Sg -> Prop}
def kO (x:aC) (l:List AxS.Step):List bC:=x.name :: (x.ins ++ (x.outs ++ x.after)) ++ l.flatMap fun s=>s.out :: s.args
theorem QD (x:aC):kH x = (x.steps.all cG && ((kO x x.steps).all bG && decide (0 < x.outs.length))):=by
 unfold kH kO
 rw [b8]
 simp only [Z3,bl,IT,aa,By,jb,ff]
 constructor
 ·rintro ⟨⟨⟨⟨⟨h1,h2⟩,h3⟩,h4⟩,h5⟩,h6⟩
  refine ⟨fun s hs=>(h6 s hs).2,fun n hn=>?_,h2⟩
  rcases hn with (rfl | hn | hn | hn) | ⟨s,hs,rfl | hn⟩
  ·exact h1
  ·exact h3 n hn
  ·exact h4 n hn
  ·exact h5 n hn
  ·exact (h6 s hs).1.1
  ·exact (h6 s hs).1.2 n hn
 ·rintro ⟨h1,h2,h3⟩
  exact ⟨⟨⟨⟨⟨h2 _ (.inl (.inl rfl)),h3⟩,fun n hn=>h2 n (.inl (.inr (.inl hn)))⟩,fun n hn=>h2 n (.inl (.inr (.inr (.inl hn))))⟩,fun n hn=>h2 n (.inl (.inr (.inr (.inr hn))))⟩,
   fun s hs=>⟨⟨h2 _ (.inr ⟨s,hs,.inl rfl⟩),fun n hn=>h2 n (.inr ⟨s,hs,.inr hn⟩)⟩,h1 s hs⟩⟩
theorem xS {x:aC} (hx:Small x):∀ l:List AxS.Step,l.length <= 14 -> (∀ s ∈ l,s.args.length <= 8) -> (kO x l).length <= 1000:=by
 intro l h1 h2
 have:∀ l:List AxS.Step,(∀ s ∈ l,s.args.length <= 8) -> (l.flatMap fun s=>s.out :: s.args).length <= 9 * l.length:=by
  intro l
  induction l with
  | nil=>intro _; simp
  | cons s l ih=>
   intro h
   have:=ih fun y hy=>h y (OF _ hy)
   have:=h s (IN ..)
   simp only [fh,Z7,Z0]
   omega
 have:=this l h2
 have a1:=hx.ins
 have a2:=hx.outs
 have a3:=hx.after
 unfold kO
 simp only [Z7,Z0]
 omega
theorem Um (h:bH E) {v:V} {x:aC} (hv:HN v x) (hx:Small x):aB E 150 [v] Z K = K (.bool (kH x)) Z:=by
 refine aB.of ?_
 have ev:=hv.snap (E:=E) Z
 obtain ⟨a,b,c,d,rfl,ia,ib,ic,id⟩:=hv
 have a1:=hx.ins
 have a2:=hx.outs
 have a3:=hx.after
 have a4:=hx.steps
 rw [aH h.X7 h.Vw h.YU h.Xb (args':=[.agg [.str x.name,a,b,c,d]]) (by simp only [aW,ev]),aX (by kernel_rfl)]
 have ha:=aM ia.bD
 have hb:=aM ib.bD
 have hc:=aM ic.bD
 have hd:=aM id.bD
 have lb:=bP h ib
 have ld:=lF h id
 rw [QD]
 simp only [aA,Tryz.f150,KP,↓reduceIte,reduceLT,reduceAdd,h.bK,ha,hb,hc,hd]
 refine QC h ia ib ic (by omega) _ ?_ ?_ ?_
 ·exact (by simp +decide only [GS])
 ·exact (by simp +decide only [GS])
 intro F1 τ1 w1 g1 g3 b1 o1 n1
 simp only [KP,↓reduceIte,reduceLT]
 refine aV (fun i F Y=>Y[0]? = some (.cells 46 [.str x.name,a,b,c,d] true) /\ F.get 1 = .ref 0 0 /\ F.get 4 = .int .i64 (i:Int) /\ (∃ w,F.get 3 = w /\ bA aO 9 Y w (kO x (x.steps.take i)) /\ aQ w ≠ some 0) /\ ∀ j y,j < i -> x.steps[j]? = some y -> cG y = true) x.steps.length ?_ ?_ x.steps.length 0 _ _ (by omega) ⟨b1,(lH (by simp +decide only [GS,g1,Z5]) ⟨⟨w1,(by simp +decide only [GS,g3]),by simpa [kO] using o1,n1⟩,fun j y hj=>by omega⟩)⟩
 ·rintro i F Y hi ⟨b0,g1,g4,⟨w,g3,ow,nw⟩,hp⟩ next
  obtain ⟨st,hst⟩:∃ y,x.steps[i]? = some y:=⟨_,AT hi⟩
  have hmem:=Z2 hst
  obtain ⟨g,p,q,e1,ip,iq⟩:=uS h id hst
  have hlt:=dZ hi
  have hadd:=bY i (by omega)
  have hlits:=hx.lits st hmem
  have hargs:=hx.args st hmem
  have kf:=fun (Y:Sg)=>LA (Z:=Y) h (v:=.agg [.str st.out,.int .i64 st.op,p,q,.int .i64 st.n]) (x:=st) ⟨p,q,rfl,ip,iq⟩ (by omega)
  rw [aG]
  by_cases hm:cG st = true
  ·simp only [KP,Ax.loadAt,↓reduceIte,reduceEqDiff,reduceLT,reduceAdd,reduceCtorEq,h.fI,h.bK,h.bN,g1,g4,b0,ld,hlt,e1,kf,hm]
   have hln:=xS hx (x.steps.take i) (by rw [ZW]; omega) (fun s hs=>hx.args s (ik hs))
   refine QB h id hst b0 ow nw (by omega) _ ?_ ?_ ?_ ?_
   ·exact (by simp +decide only [GS,g1])
   ·exact (by simp +decide only [GS,g3])
   ·exact (by simp +decide only [GS,g4])
   intro F2 τ2 w2 k1 k3 k4 b2 o2 n2
   simp only [KP,↓reduceIte,reduceLT,k4,hadd]
   refine next _ _ ⟨b2,(lH (by simp +decide only [GS,k1,Z5]) ⟨⟨w2,(by simp +decide only [GS,k3]),?_,n2⟩,fun j y hj hy=>?_⟩)⟩
   ·have e:kO x (x.steps.take (i + 1)) = kO x (x.steps.take i) ++ st.out :: st.args:=by
     rw [bh,hst]; simp [kO]
    rw [e]; exact o2
   ·rcases ZZ j i with g | g
    ·exact hp j y g hy
    ·obtain rfl:j = i:=by omega
     rw [hst] at hy; cases hy; exact hm
  ·have hm:cG st = false:=by simpa using hm
   rw [gX hst hm,jq]
   simp only [KP,Ax.loadAt,↓reduceIte,reduceEqDiff,reduceLT,reduceAdd,reduceCtorEq,h.fI,h.bK,h.bN,g1,g4,b0,ld,hlt,e1,kf,hm]
   exact rfl
 ·rintro F Y ⟨b0,g1,g4,⟨w,g3,ow,nw⟩,hp⟩
  have hlt:=d_ (ZT x.steps.length)
  rw [aG]
  rw [Ae fun j y _ hy=>hp j y (AI.1 hy).1 hy,er]
  rw [Z6 (Z1 _)] at ow
  have hln:=xS hx x.steps (by omega) hx.args
  generalize kO x x.steps = L at *
  have lw:∀ σ',(σ' = Y) -> lenOf E σ' 24 w = some L.length:=fun σ' e=>by subst e; exact nM h.a_ rfl ow.ls
  have lw:=lw Y rfl
  simp only [KP,Ax.loadAt,↓reduceIte,reduceEqDiff,reduceLT,reduceCtorEq,h.fI,h.bK,g1,g4,b0,ld,hlt]
  refine aV (fun i F σ1=>σ1 = Y /\ F.get 1 = .ref 0 0 /\ F.get 3 = w /\ F.get 5 = .int .i64 (i:Int) /\ ∀ j y,j < i -> L[j]? = some y -> bG y = true) L.length ?_ ?_ L.length 0 _ _ (by omega) ⟨rfl,(iU (by simp +decide only [GS,g1,g3,Z5]) (fun j y hj=>by omega))⟩
  ·rintro i F σ1 hi ⟨rfl,g1,g3,g5,hq⟩ next
   obtain ⟨y,hy⟩:∃ y,L[i]? = some y:=⟨_,AT hi⟩
   have hlt:=dZ hi
   have hadd:=bY i (by omega)
   obtain ⟨p,r,e1,hr,-,e2,-⟩:=HE (Z:=σ1) h.a_ rfl h.dG rfl ow.ls hy
   have e2:=e2 rfl (by decide)
   rw [show r = [.str y] from hr] at e2
   have kf:=fun (Y:Sg)=>NX (Z:=Y) h (s:=y)
   rw [aG]
   by_cases hm:bG y = true
   ·simp only [KP,↓reduceIte,reduceEqDiff,reduceLT,g3,g5,lw,hlt,e1,e2,kf,hm,hadd]
    refine next _ _ ⟨rfl,(iU (by simp +decide only [GS,g1,g3,Z5]) (fun j z hj hz=>?_))⟩
    rcases ZZ j i with g | g
    ·exact hq j z g hz
    ·obtain rfl:j = i:=by omega
     rw [hy] at hz; cases hz; exact hm
   ·have hm:bG y = false:=by simpa using hm
    rw [gX hy hm,jq]
    simp only [KP,↓reduceIte,reduceEqDiff,reduceLT,g3,g5,lw,hlt,e1,e2,kf,hm]
    exact rfl
  ·rintro F σ1 ⟨rfl,g1,g3,g5,hq⟩
   have hlt:=d_ (ZT L.length)
   rw [aG]
   rw [Ae fun j y _ hy=>hq j y (AI.1 hy).1 hy,er]
   have q:decide ((0:Int) < (x.outs.length:Int)) = decide (0 < x.outs.length):=by
    by_cases g:0 < x.outs.length
    ·rw [BY g,BY (by omega)]
    ·rw [AS g,AS (by omega)]
   simp only [KP,Ax.loadAt,↓reduceIte,reduceEqDiff,reduceLT,reduceCtorEq,h.a_,h.bK,g1,g3,g5,lw,hlt,b0,lb,q]
   exact rfl
theorem TM (h:bH E) {v:V} {x:aC} (hv:HN v x) (hx:Small x):KC E 150 [v] Z (.bool (kH x)) Z:=dK fun _=>Um h hv hx
end
end
section
section
variable {E:Env} {Z:Sg} {K:V -> Sg -> Prop}
theorem tX {α:Type} {p:α -> Bool} {l:List α}:(bQ p l).isNone = !l.any p:=by
 rw [<- cB (p:=p) (l:=l)]
 cases bQ p l <;> rfl
theorem Km {l:List bC} {s:bC} (h:s ∈ l):(bQ (fun y=>decide (y = s)) l).isSome = true:=by rw [cB,any_eq]; exact BY h
theorem Kn {l:List bC} {s:bC} (h:s ∉ l):(bQ (fun y=>decide (y = s)) l).isSome = false:=by rw [cB,any_eq]; exact AS h
theorem Oa {l:List bC} {s:bC} (h:s ∉ l):(bQ (fun y=>decide (y = s)) l).isNone = true:=by rw [tX,any_eq,AS h]; rfl
theorem Ob {l:List bC} {s:bC} (h:s ∈ l):(bQ (fun y=>decide (y = s)) l).isNone = false:=by rw [tX,any_eq,BY h]; rfl
theorem aK {Y:Sg} {x:O}:(Y ++ [x])[Y.length]? = some x:=by simp
theorem bV {Y:Sg} {x y:O}:(Y ++ [x]).set Y.length y = Y ++ [y]:=by simp
theorem aN {Y:Sg} {x y:O} {i:Nat} (h:Y[i]? = some y):(Y ++ [x])[i]? = some y:=by rw [Z8 (AI.1 h).1]; exact h
theorem kX {Y:Sg} {w:V} {l:List bC} {k u:Nat} {cs:List V} (hb:Y[k]? = some (.cells u cs true)) (hu:u ≠ 9) (ow:bA aO 9 Y w l):aQ w ≠ some k:=by
 rcases ow with ⟨rfl,-⟩ | ⟨b,rs,ex,rfl,hc,-⟩
 ·intro e; cases e
 ·intro e; cases e; rw [hb] at hc; cases hc; exact hu rfl
theorem M6 (h:bH E) {x:aC} {a b c d w:V} {Y:Sg} {Ks:List bC} (ia:IS aO a x.ins) (ib:IS aO b x.outs) (hx:Small x) (hK:Ks.length <= 14) (b0:Y[0]? = some (.cells 46 [.str x.name,a,b,c,d] true)) (ow:bA aO 9 Y w Ks) (F:FT) (g1:F.get 1 = .ref 0 0) (g3:F.get 3 = w)
  (hk:K (.int .i64 (if (x.outs.all fun o=>!decide (o ∈ x.ins) && decide (o ∈ Ks)) = true then 0 else 2)) Y):R E (cutAt [1,1,1,1] (aA Tryz.f112).code) [] ⟨139,F⟩ Y (mE E (aA Tryz.f112).results K):=by
 have a1:=hx.ins
 have a2:=hx.outs
 have lb:=bP h ib
 have d23:=h.Q_
 simp only [aA,Tryz.f112,cutAt,Z9] at d23
 simp only [aA,Tryz.f112,KP,↓reduceIte,reduceLT,cutAt]
 refine aV (fun i F σ1=>σ1 = Y /\ F.get 1 = .ref 0 0 /\ F.get 3 = w /\ F.get 7 = .int .i64 (i:Int) /\ ∀ j y,j < i -> x.outs[j]? = some y -> y ∉ x.ins /\ y ∈ Ks) x.outs.length ?_ ?_ x.outs.length 0 _ _ (by omega) ⟨rfl,(iU (by simp +decide only [GS,g1,g3,Z5]) (fun j y hj=>by omega))⟩
 ·rintro i F σ1 hi ⟨rfl,g1,g3,g7,hp⟩ next
  obtain ⟨y,hy⟩:∃ y,x.outs[i]? = some y:=⟨_,AT hi⟩
  obtain ⟨g,e1⟩:=gI h ib hy
  have hlt:=dZ hi
  have hadd:=bY i (by omega)
  have k1:=rS (Z:=σ1) h (a:=a) (l:=x.ins) (s:=y) (ia.ls σ1 9) (by omega)
  have k2:=rS (Z:=σ1) h (a:=w) (l:=Ks) (s:=y) ow.ls (by omega)
  rw [aG]
  by_cases h1:y ∈ x.ins
  ·have s1:=Km h1
   rw [ZM (by rw [gX hy (by rw [BY h1]; rfl)]; simp)] at hk
   simp only [KP,Ax.loadAt,↓reduceIte,reduceEqDiff,reduceLT,reduceCtorEq,h.dG,h.a_,h.bK,g1,g7,lb,hlt,b0,e1,k1,kG,s1,aU d23,bM]
   exact hk
  have s1:=Kn h1
  by_cases h2:y ∈ Ks
  ·have s2:=Ob h2
   simp only [KP,Ax.loadAt,↓reduceIte,reduceEqDiff,reduceLT,reduceCtorEq,h.dG,h.a_,h.bK,g1,g3,g7,lb,hlt,b0,e1,k1,k2,kG,Cp,s1,s2,hadd,aU d23,bM]
   refine next _ _ ⟨rfl,(iU (by simp +decide only [GS,g1,g3,Z5]) (fun j z hj hz=>?_))⟩
   rcases ZZ j i with g | g
   ·exact hp j z g hz
   ·obtain rfl:j = i:=by omega
    rw [hy] at hz; cases hz; exact ⟨h1,h2⟩
  ·have s2:=Oa h2
   rw [ZM (by rw [gX hy (by rw [AS h2]; simp)]; simp)] at hk
   simp only [KP,Ax.loadAt,↓reduceIte,reduceEqDiff,reduceLT,reduceCtorEq,h.dG,h.a_,h.bK,g1,g3,g7,lb,hlt,b0,e1,k1,k2,kG,Cp,s1,s2,aU d23,bM]
   exact hk
 ·rintro F σ1 ⟨rfl,g1,g3,g7,hp⟩
  have hlt:=d_ (ZT x.outs.length)
  rw [aG]
  rw [ZO (Ae fun j y _ hy=>by
   obtain ⟨h1,h2⟩:=hp j y (AI.1 hy).1 hy
   rw [AS h1,BY h2]; rfl)] at hk
  simp only [KP,Ax.loadAt,↓reduceIte,reduceEqDiff,reduceLT,reduceCtorEq,h.a_,h.bK,g1,g7,lb,hlt,b0]
  exact hk
def MD (x:aC) (i:Nat) (s:AxS.Step):Prop:=s.out ∉ x.ins ++ (x.steps.take i).map Step.out /\ ∀ y ∈ s.args,y ∈ x.ins ++ (x.steps.take i).map Step.out
theorem tD:∀ (l:List AxS.Step) (known:List bC),iB known l = true ↔ ∀ i s,l[i]? = some s -> s.out ∉ known ++ (l.take i).map Step.out /\ ∀ y ∈ s.args,y ∈ known ++ (l.take i).map Step.out
 | [],known=>by simp [iB]
 | s :: l,known=>by
  rw [iB,Z3,Z3,tD l]
  simp only [da,decide_eq_false_iff_not,bl,IT]
  constructor
  ·rintro ⟨⟨h1,h2⟩,h3⟩ i t ht
   cases i with
   | zero=>cases ht; simpa using ⟨h1,h2⟩
   | succ i=>have:=h3 i t ht; simpa using this
  ·intro h0
   refine ⟨by simpa using h0 0 s rfl,fun i t ht=>?_⟩
   have:=h0 (i + 1) t ht
   simpa using this
theorem Is (h:bH E) {x:aC} {a b c d:V} (ia:IS aO a x.ins) (ib:IS aO b x.outs) (id:IS eZ d x.steps) (hx:Small x) (F:FT) (g1:F.get 1 = .ref 0 0)
  (hk:∀ Y,K (.int .i64 (if iB x.ins x.steps = true /\ (x.outs.all fun o=>!decide (o ∈ x.ins) && decide (o ∈ x.steps.map Step.out)) = true then 0 else 2)) Y):R E (cutAt [1,1] (aA Tryz.f112).code) [] ⟨139,F⟩ [.cells 46 [.str x.name,a,b,c,d] true] (mE E (aA Tryz.f112).results K):=by
 have a1:=hx.ins
 have a4:=hx.steps
 have ld:=lF h id
 have fin:=fun Y w b0 ow F g1 g3 hk=>M6 (K:=K) h ia ib hx (c:=c) (d:=d) (w:=w) (Y:=Y) (Ks:=x.steps.map Step.out) (by rw [ZS]; omega) b0 ow F g1 g3 hk
 have d17:=h.Ra
 simp only [aA,Tryz.f112,cutAt,Z9] at d17
 rw [show cutAt [1,1] (aA Tryz.f112).code = .seq (cutAt [1,1,0] (aA Tryz.f112).code) (.seq (cutAt [1,1,1,0] (aA Tryz.f112).code) (cutAt [1,1,1,1] (aA Tryz.f112).code)) from rfl]
 generalize cutAt [1,1,1,1] (aA Tryz.f112).code = C at *
 simp only [aA,Tryz.f112,KP,↓reduceIte,reduceLT,cutAt]
 refine aV (fun i F Y=>Y[0]? = some (.cells 46 [.str x.name,a,b,c,d] true) /\ F.get 1 = .ref 0 0 /\ F.get 4 = .int .i64 (i:Int) /\ (∃ w,F.get 3 = w /\ bA aO 9 Y w ((x.steps.take i).map Step.out)) /\ ∀ j s,j < i -> x.steps[j]? = some s -> MD x j s) x.steps.length ?_ ?_ x.steps.length 0 _ _ (by omega) ⟨rfl,(lH (by simp +decide only [GS,g1,Z5]) ⟨⟨.aD,(by simp +decide only [GS]),.inl ⟨rfl,rfl⟩⟩,fun j y hj=>by omega⟩)⟩
 ·rintro i F Y hi ⟨b0,g1,g4,⟨w,g3,ow⟩,hp⟩ next
  obtain ⟨st,hst⟩:∃ y,x.steps[i]? = some y:=⟨_,AT hi⟩
  have hmem:=Z2 hst
  have a5:=hx.args st hmem
  obtain ⟨g,p,q,e1,ip,iq⟩:=uS h id hst
  have hop:=aM ip.bD
  have hoq:=aM iq.bD
  have hlt:=dZ hi
  have hadd:=bY i (by omega)
  have lp:=bP h ip
  have hKl:((x.steps.take i).map Step.out).length <= 14:=by rw [ZS,ZW]; omega
  have bx:(Y ++ [O.cells 113 [.str st.out,.int .i64 st.op,p,q,.int .i64 st.n] true])[Y.length]? = some (.cells 113 [.str st.out,.int .i64 st.op,p,q,.int .i64 st.n] true):=aK
  have b1:=aN (x:=O.cells 113 [.str st.out,.int .i64 st.op,p,q,.int .i64 st.n] true) b0
  have o1:=ow.app [O.cells 113 [.str st.out,.int .i64 st.op,p,q,.int .i64 st.n] true]
  have hbad:∀ Y,¬ MD x i st -> K (.int .i64 2) Y:=fun Y hn=>by
   have:=hk Y
   rwa [ZM (fun e=>hn ((tD _ _).1 e.1 i st hst))] at this
  have k1:=rS (Z:=Y ++ [O.cells 113 [.str st.out,.int .i64 st.op,p,q,.int .i64 st.n] true]) h (a:=a) (l:=x.ins) (s:=st.out) (ia.ls _ 9) (by omega)
  have k2:=rS (Z:=Y ++ [O.cells 113 [.str st.out,.int .i64 st.op,p,q,.int .i64 st.n] true]) h (a:=w) (l:=(x.steps.take i).map Step.out) (s:=st.out) o1.ls (by omega)
  rw [aG]
  by_cases h1:st.out ∈ x.ins
  ·have s1:=Km h1
   simp only [KP,Ax.loadAt,Ax.storeAt,↓reduceIte,reduceEqDiff,reduceLT,reduceAdd,reduceCtorEq,h.dG,h.a_,h.fI,h.bK,h.bN,g1,g4,ld,hlt,b0,e1,hop,hoq,aK,bV,b1,bx,k1,kG,s1]
   exact hbad _ fun e=>e.1 (List.mem_append_left _ h1)
  have s1:=Kn h1
  by_cases h2:st.out ∈ (x.steps.take i).map Step.out
  ·have s2:=Km h2
   simp only [KP,Ax.loadAt,Ax.storeAt,↓reduceIte,reduceEqDiff,reduceLT,reduceAdd,reduceCtorEq,h.dG,h.a_,h.fI,h.bK,h.bN,g1,g3,g4,ld,hlt,b0,e1,hop,hoq,aK,bV,b1,bx,k1,k2,kG,s1,s2]
   exact hbad _ fun e=>e.1 (gw _ h2)
  have s2:=Kn h2
  simp only [KP,Ax.loadAt,Ax.storeAt,↓reduceIte,reduceEqDiff,reduceLT,reduceAdd,reduceCtorEq,h.dG,h.a_,h.fI,h.bK,h.bN,g1,g3,g4,ld,hlt,b0,e1,hop,hoq,aK,bV,b1,bx,k1,k2,kG,s1,s2]
  generalize hτ:Y ++ [O.cells 113 [.str st.out,.int .i64 st.op,p,q,.int .i64 st.n] true] = τ1 at *
  generalize Y.length = nx at *
  refine aV (fun k F σ1=>σ1 = τ1 /\ F.get 1 = .ref 0 0 /\ F.get 3 = w /\ F.get 4 = .int .i64 (i:Int) /\ F.get 5 = .ref nx 0 /\ F.get 6 = .int .i64 (k:Int) /\ ∀ j y,j < k -> st.args[j]? = some y -> y ∈ x.ins ++ (x.steps.take i).map Step.out) st.args.length ?_ ?_ st.args.length 0 _ _ (by omega) ⟨rfl,(iJ (by simp +decide only [GS,g1,g3,g4,Z5]) (fun j y hj=>by omega))⟩
  ·rintro k F σ1 hk2 ⟨rfl,g1,g3,g4,g5,g6,hq⟩ next2
   obtain ⟨y,hy⟩:∃ y,st.args[k]? = some y:=⟨_,AT hk2⟩
   obtain ⟨g,e2⟩:=gI h ip hy
   have hlt2:=dZ hk2
   have hadd2:=bY k (by omega)
   have k3:=rS (Z:=σ1) h (a:=a) (l:=x.ins) (s:=y) (ia.ls _ 9) (by omega)
   have k4:=rS (Z:=σ1) h (a:=w) (l:=(x.steps.take i).map Step.out) (s:=y) o1.ls (by omega)
   rw [aG]
   by_cases h3:y ∈ x.ins
   ·have s3:=Ob h3
    simp only [KP,Ax.loadAt,↓reduceIte,reduceEqDiff,reduceLT,reduceCtorEq,h.dG,h.a_,h.bK,h.bN,g1,g5,g6,lp,hlt2,b1,bx,e2,k3,Cp,s3,hadd2,aU d17,bM]
    refine next2 _ _ ⟨rfl,(iJ (by simp +decide only [GS,g1,g3,g4,g5,Z5]) (fun j z hj hz=>?_))⟩
    rcases ZZ j k with g | g
    ·exact hq j z g hz
    ·obtain rfl:j = k:=by omega
     rw [hy] at hz; cases hz; exact List.mem_append_left _ h3
   have s3:=Oa h3
   by_cases h4:y ∈ (x.steps.take i).map Step.out
   ·have s4:=Ob h4
    simp only [KP,Ax.loadAt,↓reduceIte,reduceEqDiff,reduceLT,reduceCtorEq,h.dG,h.a_,h.bK,h.bN,g1,g3,g5,g6,lp,hlt2,b1,bx,e2,k3,k4,Cp,s3,s4,hadd2,aU d17,bM]
    refine next2 _ _ ⟨rfl,(iJ (by simp +decide only [GS,g1,g3,g4,g5,Z5]) (fun j z hj hz=>?_))⟩
    rcases ZZ j k with g | g
    ·exact hq j z g hz
    ·obtain rfl:j = k:=by omega
     rw [hy] at hz; cases hz; exact gw _ h4
   ·have s4:=Oa h4
    simp only [KP,Ax.loadAt,↓reduceIte,reduceEqDiff,reduceLT,reduceCtorEq,h.dG,h.a_,h.bK,h.bN,g1,g3,g5,g6,lp,hlt2,b1,bx,e2,k3,k4,Cp,s3,s4,aU d17,bM]
    exact hbad _ fun e=>(aa.1 (e.2 y (Z2 hy))).elim h3 h4
  ·rintro F σ1 ⟨rfl,g1,g3,g4,g5,g6,hq⟩
   have hlt2:=d_ (ZT st.args.length)
   obtain ⟨w2,τ2,ha2,o2,k2',n2⟩:=Fx (s:=st.out) (ex:=true) h o1 (by omega)
   rw [aG]
   simp only [KP,Ax.loadAt,↓reduceIte,reduceEqDiff,reduceLT,reduceLeDiff,reduceMul,reduceCtorEq,h.dG,h.a_,h.bN,g3,g4,g5,g6,lp,hlt2,bx,kP,ha2,hadd]
   have b2:τ2[0]? = some (.cells 46 [.str x.name,a,b,c,d] true):=k2' 0 _ (aN b1) (kX b1 (by decide) o1)
   refine next _ _ ⟨b2,(lH (by simp +decide only [GS,g1,Z5]) ⟨⟨w2,(by simp +decide only [GS]),?_⟩,fun j s hj hs=>?_⟩)⟩
   ·have e:(x.steps.take (i + 1)).map Step.out = (x.steps.take i).map Step.out ++ [st.out]:=by rw [bh,hst]; simp
    rw [e]; exact o2
   ·rcases ZZ j i with g | g
    ·exact hp j s g hs
    ·obtain rfl:j = i:=by omega
     rw [hst] at hs; cases hs
     exact ⟨fun e=>(aa.1 e).elim h1 h2,fun y hy=>by
      obtain ⟨n,hn,e⟩:=bu hy
      exact hq n y hn (by rw [AT hn,e])⟩
 ·rintro F Y ⟨b0,g1,g4,⟨w,g3,ow⟩,hp⟩
  have hlt:=d_ (ZT x.steps.length)
  rw [Z6 (Z1 _)] at ow
  have hst:iB x.ins x.steps = true:=(tD _ _).2 fun i s hs=>hp i s (AI.1 hs).1 hs
  have hk:=hk Y
  rw [hst] at hk
  simp only [true_and] at hk
  rw [aG]
  simp only [KP,Ax.loadAt,↓reduceIte,reduceEqDiff,reduceLT,reduceCtorEq,h.fI,h.bK,g1,g4,ld,hlt,b0]
  exact fin Y w b0 ow _ (by simp +decide only [GS,g1]) (by simp +decide only [GS,g3]) hk
end
end
end Go.Proofs.YtmhchflckonklaaGreatDoor
end
