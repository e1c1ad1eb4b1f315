/- Part 15 of the proof. -/
import Derived.Test.YtmbikbgdbbcbmaaGreatDoorY
import Derived.Test.YtmbikbgdbbcbmaaGreatDoorZ14
import Derived.Test.YtmbikbgdbbcbmaaGreatDoorZ0
import Derived.Test.YtmbikbgdbbcbmaaGreatDoorZ3
set_option maxHeartbeats 8000000
set_option linter.unusedVariables false
set_option maxRecDepth 10000
open Nat (reduceLT reduceAdd reduceEqDiff reduceLeDiff reduceMul)
open List (take_succ_cons take_nil)
open Int (reduceNeg reduceEq)
section
namespace Go.Ax
open Go
section
def FT.set (F:FT) (t:Nat) (v:V):FT:=FT.put v (t+1) F t
theorem FT.cI {F:FT}{u t:Nat}{v:V}:(FT.set F u v).get t=if t=u then v else F.get t:=FT.aH v (u+1) F u t (by omega)
theorem Fr.uU {n u:Nat}{F:FT}{v:V}:Fr.put ⟨n,F⟩ u v=if u<n then ⟨n,FT.set F u v⟩ else ⟨n,F⟩:=by
 unfold Fr.put;cases h:Nat.blt u n with
 |true=>rw[oo]at h;rw[az h];rfl
 |false=>rw[an];intro g;rw[<- oo]at g;rw[h]at g;cases g
theorem Fr.vI {n t:Nat}{F:FT}:Fr.get ⟨n,F⟩ t=if t<n then some (F.get t) else none:=by
 unfold Fr.get;cases h:Nat.blt t n with
 |true=>rw[oo]at h;rw[az h]
 |false=>rw[an];intro g;rw[<- oo]at g;rw[h]at g;cases g
section
variable {E:Env}{fr:Fr}{Z:Sg}{ops:Array Oper}{l:List Oper}{Q:Fr->Sg->Prop}{dst:Option Nat}{op:Op}{ty:Nat}{pos:String}{after:Array Edge}
theorem Cj:uF E ops (⟨dst,op,ty,pos,after,none⟩::l) fr Z Q=kQ E op fr Z λv Z=>uF E ops l (cT fr dst v) Z Q:=by
 rw[wpOps_cons];exact az rfl
end
section
variable {E:Env}{fr:Fr}{Z:Sg}{K:V->Sg->Prop}
theorem dI {o:Option (V × Sg)}:got o K=(match o with
  |some (v,Z)=>K v Z
  |none=>False):=rfl
def app3 (a b c:List V):Option (List V):=some (a++b++c)
theorem MC {x:Operand}:kQ E (.move x) fr Z K=(match (aR fr x).map (·,Z) with
  |some (v,Z)=>K v Z
  |none=>False):=(bU (f:=λfr Z=>(aR fr x).map (·,Z)) rfl).trans dI
theorem G8 {x:Operand}:kQ E (.assign x) fr Z K=(match (aR fr x).map (·,Z) with
  |some (v,Z)=>K v Z
  |none=>False):=(bU (f:=λfr Z=>(aR fr x).map (·,Z)) rfl).trans dI
theorem MA {c a b:Operand}:kQ E (.pick c a b) fr Z K=(match kA E fr Z c a b with
  |some (v,Z)=>K v Z
  |none=>False):=(bU (f:=λfr Z=>kA E fr Z c a b) rfl).trans dI
theorem Jy {e:Nat}:kQ E (.alloc e) fr Z K=(match sY E fr Z e with
  |some (v,Z)=>K v Z
  |none=>False):=(bU (f:=λfr Z=>sY E fr Z e) rfl).trans dI
theorem Of {e:Nat}{x:Operand}:kQ E (.box e x) fr Z K=(match HZ E fr Z e x with
  |some (v,Z)=>K v Z
  |none=>False):=(bU (f:=λfr Z=>HZ E fr Z e x) rfl).trans dI
theorem Jv {t:Nat}{parts:Array (Nat × Operand)}:kQ E (.build t parts) fr Z K=(match rB E fr Z t parts with
  |some (v,Z)=>K v Z
  |none=>False):=(bU (f:=λfr Z=>rB E fr Z t parts) rfl).trans dI
theorem BM {t len:Nat}{parts:Array (Nat × Operand)}:kQ E (.buildSlice t len parts) fr Z K=(match fG E fr Z t len parts with
  |some (v,Z)=>K v Z
  |none=>False):=by
 refine propext ⟨λ⟨_,v,σ',h,hk⟩=>?_,λh=>?_⟩
 ·have h:fG E fr Z t len parts=some (v,σ'):=h;rw[h];exact hk
 ·split at h
  ·rename_i v σ' e;exact⟨0,v,σ',e,h⟩
  ·exact h.elim
theorem MD {t:Nat}{a:Operand}:kQ E (.load t a) fr Z K=(match iH E fr Z t a with
  |some (v,Z)=>K v Z
  |none=>False):=(bU (f:=λfr Z=>iH E fr Z t a) rfl).trans dI
theorem Jq {t:Nat}{a x:Operand}:kQ E (.store t a x) fr Z K=(match j_ E fr Z t a x with
  |some (v,Z)=>K v Z
  |none=>False):=(bU (f:=λfr Z=>j_ E fr Z t a x) rfl).trans dI
theorem Ec {x:Operand}:kQ E (.nilCheck x) fr Z K=(match jM E fr Z x with
  |some (v,Z)=>K v Z
  |none=>False):=(bU (f:=λfr Z=>jM E fr Z x) rfl).trans dI
theorem Jw {op:BinOp}{t u:Nat}{x y:Operand}:kQ E (.binOp op t x y u) fr Z K=(match eV E fr Z op t x y with
  |some (v,Z)=>K v Z
  |none=>False):=(bU (f:=λfr Z=>eV E fr Z op t x y) rfl).trans dI
theorem Mz {op:UnOp}{t:Nat}{x:Operand}:kQ E (.unOp op t x) fr Z K=(match oL E fr Z op x with
  |some (v,Z)=>K v Z
  |none=>False):=(bU (f:=λfr Z=>oL E fr Z op x) rfl).trans dI
theorem FW {s d:Nat}{x:Operand}:kQ E (.convert s d x) fr Z K=(match mI E fr Z s d x with
  |some (v,Z)=>K v Z
  |none=>False):=(bU (f:=λfr Z=>mI E fr Z s d x) rfl).trans dI
theorem Js {t:Nat}{x:Operand}:kQ E (.range t x) fr Z K=(match pU E fr Z t x with
  |some (v,Z)=>K v Z
  |none=>False):=(bU (f:=λfr Z=>pU E fr Z t x) rfl).trans dI
theorem MB {x:Operand}:kQ E (.next x true) fr Z K=(match wY E fr Z x with
  |some (v,Z)=>K v Z
  |none=>False):=(bU (f:=λfr Z=>wY E fr Z x) rfl).trans dI
theorem xG {t:Nat}{x:Operand}:kQ E (.makeInterface t x) fr Z K=(match eB E fr Z t x with
  |some (v,Z)=>K v Z
  |none=>False):=(bU (f:=λfr Z=>eB E fr Z t x) rfl).trans dI
theorem Ed {f:Nat}{a b:Array Operand}:kQ E (.makeFunc (.func f) a b) fr Z K=(match jN E fr Z f a b with
  |some (v,Z)=>K v Z
  |none=>False):=(bU (f:=λfr Z=>jN E fr Z f a b) rfl).trans dI
theorem FU {t:Nat}{r:Option Operand}:kQ E (.makeMap t r) fr Z K=(match mH E fr Z t r with
  |some (v,Z)=>K v Z
  |none=>False):=(bU (f:=λfr Z=>mH E fr Z t r) rfl).trans dI
theorem Cl {t:Nat}{l c:Operand}:kQ E (.makeSlice t l c) fr Z K=(match kB E fr Z t l c with
  |some (v,Z)=>K v Z
  |none=>False):=(bU (f:=λfr Z=>kB E fr Z t l c) rfl).trans dI
theorem Jr {t:Nat}{x:Operand}{lo hi mx:Option Operand}:kQ E (.slice t x lo hi mx) fr Z K=(match sX E fr Z t x lo hi mx with
  |some (v,Z)=>K v Z
  |none=>False):=(bU (f:=λfr Z=>sX E fr Z t x lo hi mx) rfl).trans dI
theorem Cn {t f:Nat}{x:Operand}:kQ E (.fieldAddr t x f) fr Z K=(match iB E fr Z t x f with
  |some (v,Z)=>K v Z
  |none=>False):=(bU (f:=λfr Z=>iB E fr Z t x f) rfl).trans dI
theorem Ju {t f:Nat}{x:Operand}:kQ E (.field t x f) fr Z K=(match rA E fr Z t x f with
  |some (v,Z)=>K v Z
  |none=>False):=(bU (f:=λfr Z=>rA E fr Z t x f) rfl).trans dI
theorem Cm {t:Nat}{x i:Operand}:kQ E (.indexAddr t x i) fr Z K=(match bZ E fr Z t x i with
  |some (v,Z)=>K v Z
  |none=>False):=(bU (f:=λfr Z=>bZ E fr Z t x i) rfl).trans dI
theorem Jt {t:Nat}{x i:Operand}:kQ E (.index t x i) fr Z K=(match q_ E fr Z t x i with
  |some (v,Z)=>K v Z
  |none=>False):=(bU (f:=λfr Z=>q_ E fr Z t x i) rfl).trans dI
theorem G7 {t:Nat}{x k:Operand}{ok:Bool}:kQ E (.lookup t x k ok) fr Z K=(match dW E fr Z t x k ok with
  |some (v,Z)=>K v Z
  |none=>False):=(bU (f:=λfr Z=>dW E fr Z t x k ok) rfl).trans dI
theorem Ck {t:Nat}{m k x:Operand}:kQ E (.mapUpdate t m k x) fr Z K=(match dR E fr Z t m k x with
  |some (v,Z)=>K v Z
  |none=>False):=(bU (f:=λfr Z=>dR E fr Z t m k x) rfl).trans dI
theorem FV {t:Operand}{i:Nat}:kQ E (.extract t i) fr Z K=(match cU E fr Z t i with
  |some (v,Z)=>K v Z
  |none=>False):=(bU (f:=λfr Z=>cU E fr Z t i) rfl).trans dI
theorem FX {b:Builtin}{args:Array Operand}{ats:Array Nat}:kQ E (.call { callee:=.builtin b,args:=args,argTypes:=ats }) fr Z K=(match eL E fr Z b args ats with
  |some (v,Z)=>K v Z
  |none=>False):=by
 refine propext ⟨λ⟨_,v,σ',h,hk⟩=>?_,λh=>?_⟩
 ·have h:eL E fr Z b args ats=some (v,σ'):=by cases b <;> exact h
  rw[h];exact hk
 ·split at h
  ·rename_i v σ' e;exact⟨0,v,σ',by cases b <;> exact e,h⟩
  ·exact h.elim
theorem ME {f:Operand}{args:Array Operand}{ats:Array Nat}:kQ E (.call { callee:=.value f,args:=args,argTypes:=ats }) fr Z K=match aR fr f,eH fr args.toList with
  |some (.fn k first cap),some l=>(match app3 first l cap with
   |some l=>aB E k l Z K
   |none=>False)
  |_,_=>False:=by
 refine propext ⟨λ⟨n,v,σ',h,hk⟩=>?_,λh=>?_⟩
 ·have h:(match aR fr f,eH fr args.toList with
   |some (.fn k first cap),some l=>g_ E (ev E n) k (first++l++cap) Z
   |_,_=>no "call")=some (v,σ'):=h
  split at h
  ·exact⟨n,v,σ',h,hk⟩
  ·cases h
 ·split at h
  ·rename_i e1 e2;obtain⟨n,v,σ',h,hk⟩:=h;refine⟨n,v,σ',?_,hk⟩
   show (match aR fr f,eH fr args.toList with
    |some (.fn k first cap),some l=>g_ E (ev E n) k (first++l++cap) Z
    |_,_=>no "call")=some (v,σ')
   rw[e1,e2];exact h
  ·exact h.elim
def Gi (E:Env) (rs:List ResultVar) (K:V->Sg->Prop) (fr:Fr) (Z:Sg):Prop:=match results E fr Z rs with
 |some [v]=>K v Z
 |some vs=>K (.fM vs) Z
 |none=>False
def nT (E:Env) (F:Fn) (args:List V) (Z:Sg) (K:V->Sg->Prop):Prop:=match Fr.init F.ntmps args with
 |none=>False
 |some fr=>Wp E F.code fr Z λx fr Z=>match x with
  | .exit _=>False
  |_=>Gi E F.results K fr Z
theorem uJ {F:Fn}{args:List V}:nT E F args Z K ↔ ∃n v σ',enter E (ev E n) F args Z=some (v,σ')/\K v σ':=by
 unfold nT enter;cases hi:Fr.init F.ntmps args with
 |none=>exact⟨λh=>h.elim,λ⟨_,_,_,h,_⟩=>by cases h⟩
 |some fr=>
  try dsimp only
  constructor
  ·rintro⟨n,x,fr',σ',h,hq⟩;refine⟨n,?_⟩;rw[h];cases x with
   |exit id=>exact hq.elim
   |normal=>
    simp only[Gi]at hq;split at hq
    ·rename_i v e;exact⟨v,σ',by simp only[e],hq⟩
    ·rename_i vs hn e;refine⟨.fM vs,σ',?_,hq⟩;simp only[e]
    ·exact hq.elim
   |ret=>
    simp only[Gi]at hq;split at hq
    ·rename_i v e;exact⟨v,σ',by simp only[e],hq⟩
    ·rename_i vs hn e;refine⟨.fM vs,σ',?_,hq⟩;simp only[e]
    ·exact hq.elim
  ·rintro⟨n,v,σ',h,hk⟩
   have fin:∀(fr1:Fr) (σ1:Sg),(match results E fr1 σ1 F.results with
     |some [v]=>some (v,σ1)
     |some vs=>some (V.fM vs,σ1)
     |none=>no "results")=some (v,σ')->Gi E F.results K fr1 σ1:=by
    intro fr1 σ1 h;unfold Gi;split at h
    ·cases h;exact hk
    ·rename_i vs hn e;cases h;cases vs with
     |nil=>exact hk
     |cons a l=>cases l with
      |nil=>exact absurd rfl (hn a)
      |cons b l=>exact hk
    ·cases h
   cases he:ev E n F.code fr Z with
   |none=>rw[he]at h;cases h
   |some y=>
    obtain⟨x,fr1,σ1⟩:=y;rw[he]at h;refine⟨n,x,fr1,σ1,he,?_⟩;cases x with
    |exit id=>cases h
    |normal=>exact fin _ _ h
    |ret=>exact fin _ _ h
theorem l_ {f:Nat}{args:List V}{s:List V->Sg->Option (V × Sg)}(h1:E.hspec f=some s):aB E f args Z K=got (s args Z) K:=by
 unfold aB g_;rw[h1];dsimp only;cases s args Z with
 |none=>exact propext ⟨λ⟨_,_,_,h,_⟩=>(by cases h),λh=>h.elim⟩
 |some y=>exact propext ⟨λ⟨_,_,_,h,hk⟩=>(by cases h;exact hk),λh=>⟨0,_,_,rfl,h⟩⟩
theorem qL {f:Nat}{args args':List V}{s:List V->Option V}{v v':V}(h1:E.hspec f=none)(h2:E.spec f=some s)(h3:aX (aU Z E.ty true) args=some args')(h4:s args'=some v)(h5:cG [] E.ty false v=some v'):aB E f args Z K=K v' Z:=by
 have:∀r,g_ E r f args Z=some (v',Z):=λr=>by
  unfold g_;rw[h1,h2,h3];dsimp only;rw[h4];dsimp only;rw[h5]
 exact propext ⟨λ⟨n,_,_,h,hk⟩=>(by rw[this]at h;cases h;exact hk),λh=>⟨0,_,_,this _,h⟩⟩
theorem cN {f:Nat}{args:List V}{F:Fn}(h1:E.hspec f=none)(h2:E.spec f=none)(h3:E.fn f=some F)(h4:E.mode f=.shared):aB E f args Z K=nT E F args Z K:=by
 rw[propext uJ];unfold aB g_;rw[h1,h2,h3,h4];dsimp only;refine propext ⟨λ⟨n,v,σ',h,hk⟩=>⟨n,v,σ',?_,hk⟩,λ⟨n,v,σ',h,hk⟩=>⟨n,v,σ',by rw[h],hk⟩⟩;split at h
 ·rename_i e;rw[e];exact h
 ·cases h
theorem aI {f:Nat}{args args':List V}{F:Fn}(h1:E.hspec f=none)(h2:E.spec f=none)(h3:E.fn f=some F)(h4:E.mode f=.eS)(h5:aX (aU Z E.ty true) args=some args') :
  aB E f args Z K=nT E F args' [] λv σ1=>match cG σ1 E.ty false v with
   |some v=>K v Z
   |none=>False:=by
 rw[propext uJ];unfold aB g_;rw[h1,h2,h3,h4];dsimp only;rw[h5];dsimp only;refine propext ⟨λ⟨n,v,σ',h,hk⟩=>?_,λ⟨n,v,σ',h,hk⟩=>?_⟩
 ·cases he:enter E (ev E n) F args' [] with
  |none=>rw[he]at h;cases h
  |some y=>
   obtain⟨u,σ1⟩:=y;rw[he]at h;dsimp only at h;refine⟨n,u,σ1,he,?_⟩;cases hs:cG σ1 E.ty false u with
   |none=>rw[hs]at h;cases h
   |some v1=>rw[hs]at h;cases h;exact hk
 ·cases hs:cG σ' E.ty false v with
  |none=>rw[hs]at hk;exact hk.elim
  |some v1=>
   rw[hs]at hk;refine⟨n,v1,Z,?_,hk⟩;rw[h];dsimp only;rw[hs];rfl
theorem nT.mono {F:Fn}{args:List V}{K':V->Sg->Prop}(h:nT E F args Z K)(hk:∀v Z,K v Z->K' v Z):nT E F args Z K':=by
 rw[uJ]at h ⊢;obtain⟨n,v,σ',h,hk'⟩:=h;exact⟨n,v,σ',h,hk _ _ hk'⟩
theorem aB.mono {f:Nat}{args:List V}{K':V->Sg->Prop}(h:aB E f args Z K)(hk:∀v Z,K v Z->K' v Z):aB E f args Z K':=by
 obtain⟨n,v,σ',h,hk'⟩:=h;exact⟨n,v,σ',h,hk _ _ hk'⟩
def LH:List Oper->Bool
 | []=>true
 |o::l=>(match o.op with
  | .buildSlice ..=>false
  | .call { callee:=.builtin .append,.. }=>false
  |_=>true)&&LH l
theorem M9 {ev:yE}{dr:Fz}{op:Op}{fr:Fr}(h:(match op with
  | .buildSlice ..=>false
  | .call { callee:=.builtin .append,.. }=>false
  |_=>true)=true):kY E ev dr op fr Z=kY E ev .no op fr Z:=by
 cases op with
 |buildSlice t len parts=>cases h
 |call cc=>
  obtain⟨callee,args,ats⟩:=cc;cases callee with
  |builtin b=>cases b <;> first | rfl | cases h
  |_=>rfl
 |_=>rfl
theorem Bz {ev:yE}{dr:Fz}{ops:Array Oper}:∀{l:List Oper}{fr:Fr}{Z:Sg},LH l=true->gN E ev dr ops l fr Z=gN E ev .no ops l fr Z
 | [],_,_,_=>rfl
 |o::l,fr,Z,h=>by
  simp only[LH,ai]at h
  have e:bL E ev dr ops o fr Z=bL E ev .no ops o fr Z:=by
   unfold bL;rw[M9 h.1]
  rw[gN,gN,e];cases bL E ev .no ops o fr Z with
  |none=>rfl
  |some y=>exact Bz h.2
def aM (E:Env):Code->Bool
 | .region _ ops true=>(match cH E (fJ E ops) ops with
  |some []=>true
  |_=>false)&&(LH ops.toList||(match fJ E ops with | .no=>true | _=>false))
 |_=>false
def bK:Code->Code
 | .region id ops _=>.region id ops false
 |c=>c
theorem Mx {c:Code}{fr:Fr}{Q:X->Fr->Sg->Prop}(h:aM E c=true):Wp E c fr Z Q=Wp E (bK c) fr Z Q:=by
 unfold aM at h;split at h
 case h_2=>cases h
 rename_i id ops;rw[ai]at h;obtain⟨h1,h2⟩:=h;show _=Wp E (.region id ops false) fr Z Q;rw[KV,Oe];unfold Rv uF cO;cases hp:cH E (fJ E ops) ops with
 |none=>rw[hp]at h1;cases h1
 |some l=>
  rw[hp]at h1;cases l with
  |cons d l=>cases h1
  |nil=>
   simp only;cases hd:fJ E ops with
   |no=>rfl
   |_=>
    rw[hd]at h2;simp only[Bool.or_false]at h2;simp only[Bz h2]
def opsOf:Code->Array Oper
 | .region _ ops _=>ops
 |_=>#[]
def cutAt:List Nat->Code->Code
 | [],c=>c
 |0::p,.seq a _=>cutAt p a
 |1::p,.seq _ b=>cutAt p b
 |2::p,.block _ c=>cutAt p c
 |2::p,.loop c=>cutAt p c
 |0::p,.cond _ a _=>cutAt p a
 |1::p,.cond _ _ b=>cutAt p b
 |_,c=>c
end
end
section
theorem UK:((0:Nat):Int)=0:=rfl
theorem U6:(0:Int).toNat=0:=rfl
theorem WZ:(false==true)=false:=rfl
theorem WY:(true==false)=false:=rfl
inductive kH where
 |k (c:Code) | blk (id:Nat) | lp (c:Code)
def M (E:Env):List kH->X->Fr->Sg->(X->Fr->Sg->Prop)->Prop
 | [],x,fr,Z,Q=>Q x fr Z
 | .k c::s,.normal,fr,Z,Q=>Wp E c fr Z λx fr Z=>M E s x fr Z Q
 | .k _::s,x,fr,Z,Q=>M E s x fr Z Q
 | .blk id::s,.exit i,fr,Z,Q=>if i=id then M E s .normal fr Z Q else M E s (.exit i) fr Z Q
 | .blk _::s,x,fr,Z,Q=>M E s x fr Z Q
 | .lp c::s,.normal,fr,Z,Q=>Wp E (.loop c) fr Z λx fr Z=>M E s x fr Z Q
 | .lp _::s,x,fr,Z,Q=>M E s x fr Z Q
def R (E:Env) (c:Code) (s:List kH) (fr:Fr) (Z:Sg) (Q:X->Fr->Sg->Prop):Prop:=Wp E c fr Z λx fr Z=>M E s x fr Z Q
def dM (E:Env) (ops:Array Oper) (l:List Oper) (st:Option (Fr × Sg)) (s:List kH) (Q:X->Fr->Sg->Prop):Prop:=match st with
 |some (fr,Z)=>uF E ops l fr Z λfr Z=>M E s .normal fr Z Q
 |none=>False
def xO (dst:Option Nat) (fr:Fr) (o:Option (V × Sg)):Option (Fr × Sg):=match o with
 |some (v,Z)=>some (cT fr dst v,Z)
 |none=>none
def Ai (E:Env) (f:Nat) (args:List V) (Z:Sg) (dst:Option Nat) (fr:Fr) (ops:Array Oper) (l:List Oper) (s:List kH) (Q:X->Fr->Sg->Prop):Prop:=aB E f args Z λv Z=>dM E ops l (some (cT fr dst v,Z)) s Q
section
variable {E:Env}{s:List kH}{fr:Fr}{Z:Sg}{Q:X->Fr->Sg->Prop}
theorem PL {x:X}:M E [] x fr Z Q=Q x fr Z:=rfl
theorem PO {c:Code}:M E (.k c::s) .normal fr Z Q=R E c s fr Z Q:=rfl
theorem PN {c:Code}{i:Nat}:M E (.k c::s) (.exit i) fr Z Q=M E s (.exit i) fr Z Q:=rfl
theorem Sw {c:Code}:M E (.k c::s) .ret fr Z Q=M E s .ret fr Z Q:=rfl
theorem Z5 {id:Nat}:M E (.blk id::s) .normal fr Z Q=M E s .normal fr Z Q:=rfl
theorem Ka {id i:Nat}:M E (.blk id::s) (.exit i) fr Z Q=if i=id then M E s .normal fr Z Q else M E s (.exit i) fr Z Q:=rfl
theorem Nf {id:Nat}:M E (.blk id::s) .ret fr Z Q=M E s .ret fr Z Q:=rfl
theorem m_lp {c:Code}:M E (.lp c::s) .normal fr Z Q=R E (.loop c) s fr Z Q:=rfl
theorem Nd {c:Code}{i:Nat}:M E (.lp c::s) (.exit i) fr Z Q=M E s (.exit i) fr Z Q:=rfl
theorem PM {c:Code}:M E (.lp c::s) .ret fr Z Q=M E s .ret fr Z Q:=rfl
theorem JW:R E .skip s fr Z Q=M E s .normal fr Z Q:=wp_skip
theorem VL {i:Nat}:R E (.exit i) s fr Z Q=M E s (.exit i) fr Z Q:=wp_exit
theorem YT:R E .ret s fr Z Q=M E s .ret fr Z Q:=wp_ret
theorem YS {a b:Code}:R E (.seq a b) s fr Z Q=R E a (.k b::s) fr Z Q:=by
 unfold R;rw[wp_seq];congr 1;funext x fr Z;cases x <;> rfl
theorem Sh {id:Nat}{c:Code}:R E (.block id c) s fr Z Q=R E c (.blk id::s) fr Z Q:=by
 unfold R;rw[wp_block];congr 1;funext x fr Z;cases x <;> rfl
theorem aG {c:Code}:R E (.loop c) s fr Z Q=R E c (.lp c::s) fr Z Q:=by
 unfold R;rw[wp_loop];congr 1;funext x fr Z;cases x <;> rfl
def Kw (o:Option V):Option Bool:=match o with
 |some (.bool b)=>some b
 |_=>none
theorem I0 {b:Bool}:Kw (some (.bool b))=some b:=rfl
theorem VM {c:Operand}{t e:Code}:R E (.cond c t e) s fr Z Q=if Kw (aR fr c)=some true then R E t s fr Z Q else if Kw (aR fr c)=some false then R E e s fr Z Q else False:=by
 unfold R;rw[wp_cond];cases aR fr c with
 |none=>rfl
 |some v=>
  cases v with
  |bool b=>cases b <;> rfl
  |_=>rfl
theorem YU {id:Nat}{l:List Oper}:R E (.region id l.toArray false) s fr Z Q=dM E l.toArray l (some (fr,Z)) s Q:=Oe
theorem aT {c:Code}(h:aM E c=true):R E c s fr Z Q=R E (bK c) s fr Z Q:=Mx h
variable {ops:Array Oper}{l:List Oper}{dst:Option Nat}{ty:Nat}{pos:String}{after:Array Edge}
theorem Wg:dM E ops l none s Q=False:=rfl
theorem aaa:dM E ops [] (some (fr,Z)) s Q=M E s .normal fr Z Q:=My
theorem S3 {op:Op}{j:Nat}{w:Bool}:dM E ops (⟨dst,op,ty,pos,after,some (j,w)⟩::l) (some (fr,Z)) s Q=if yielded ops fr j=some w then dM E ops (⟨dst,op,ty,pos,after,none⟩::l) (some (fr,Z)) s Q else dM E ops l (some (cT fr dst .undef,Z)) s Q:=by
 show uF E ops (⟨dst,op,ty,pos,after,some (j,w)⟩::l) fr Z _=_;rw[wpOps_cons];by_cases h:yielded ops fr j=some w
 ·rw[az h,az (by show (yielded ops fr j==some w)=true;rw[h];simp)];exact Cj.symm
 ·rw[an h,an]
  ·rfl
  ·intro g;have g:(yielded ops fr j==some w)=true:=g;exact h (by simpa using g)
theorem mW {op:Op}{o:Option (V × Sg)}(h:∀K,kQ E op fr Z K=(match o with
  |some (v,Z)=>K v Z
  |none=>False)):dM E ops (⟨dst,op,ty,pos,after,none⟩::l) (some (fr,Z)) s Q=dM E ops l (xO dst fr o) s Q:=by
 show uF E ops (⟨dst,op,ty,pos,after,none⟩::l) fr Z _=_;rw[Cj,h];cases o with
 |none=>rfl
 |some y=>rfl
theorem Wi {x:Operand}:dM E ops (⟨dst,.move x,ty,pos,after,none⟩::l) (some (fr,Z)) s Q=dM E ops l (xO dst fr ((aR fr x).map (·,Z))) s Q:=mW λ_=>MC
theorem Qf {x:Operand}:dM E ops (⟨dst,.assign x,ty,pos,after,none⟩::l) (some (fr,Z)) s Q=dM E ops l (xO dst fr ((aR fr x).map (·,Z))) s Q:=mW λ_=>G8
theorem Wf {c a b:Operand}:dM E ops (⟨dst,.pick c a b,ty,pos,after,none⟩::l) (some (fr,Z)) s Q=dM E ops l (xO dst fr (kA E fr Z c a b)) s Q:=mW λ_=>MA
theorem S9 {e:Nat}:dM E ops (⟨dst,.alloc e,ty,pos,after,none⟩::l) (some (fr,Z)) s Q=dM E ops l (xO dst fr (sY E fr Z e)) s Q:=mW λ_=>Jy
theorem aab {e:Nat}{x:Operand}:dM E ops (⟨dst,.box e x,ty,pos,after,none⟩::l) (some (fr,Z)) s Q=dM E ops l (xO dst fr (HZ E fr Z e x)) s Q:=mW λ_=>Of
theorem S7 {t:Nat}{parts:Array (Nat × Operand)}:dM E ops (⟨dst,.build t parts,ty,pos,after,none⟩::l) (some (fr,Z)) s Q=dM E ops l (xO dst fr (rB E fr Z t parts)) s Q:=mW λ_=>Jv
theorem GD {t len:Nat}{parts:Array (Nat × Operand)}:dM E ops (⟨dst,.buildSlice t len parts,ty,pos,after,none⟩::l) (some (fr,Z)) s Q=dM E ops l (xO dst fr (fG E fr Z t len parts)) s Q:=mW λ_=>BM
theorem Wj {t:Nat}{a:Operand}:dM E ops (⟨dst,.load t a,ty,pos,after,none⟩::l) (some (fr,Z)) s Q=dM E ops l (xO dst fr (iH E fr Z t a)) s Q:=mW λ_=>MD
theorem SY {t:Nat}{a x:Operand}:dM E ops (⟨dst,.store t a x,ty,pos,after,none⟩::l) (some (fr,Z)) s Q=dM E ops l (xO dst fr (j_ E fr Z t a x)) s Q:=mW λ_=>Jq
theorem Ki {x:Operand}:dM E ops (⟨dst,.nilCheck x,ty,pos,after,none⟩::l) (some (fr,Z)) s Q=dM E ops l (xO dst fr (jM E fr Z x)) s Q:=mW λ_=>Ec
theorem S8 {op:BinOp}{t:Nat}{x y:Operand}{u:Nat}:dM E ops (⟨dst,.binOp op t x y u,ty,pos,after,none⟩::l) (some (fr,Z)) s Q=dM E ops l (xO dst fr (eV E fr Z op t x y)) s Q:=mW λ_=>Jw
theorem Wd {op:UnOp}{t:Nat}{x:Operand}:dM E ops (⟨dst,.unOp op t x,ty,pos,after,none⟩::l) (some (fr,Z)) s Q=dM E ops l (xO dst fr (oL E fr Z op x)) s Q:=mW λ_=>Mz
theorem Nq {u d:Nat}{x:Operand}:dM E ops (⟨dst,.convert u d x,ty,pos,after,none⟩::l) (some (fr,Z)) s Q=dM E ops l (xO dst fr (mI E fr Z u d x)) s Q:=mW λ_=>FW
theorem S0 {t:Nat}{x:Operand}:dM E ops (⟨dst,.range t x,ty,pos,after,none⟩::l) (some (fr,Z)) s Q=dM E ops l (xO dst fr (pU E fr Z t x)) s Q:=mW λ_=>Js
theorem BR {t:Nat}{x:Operand}:dM E ops (⟨dst,.makeInterface t x,ty,pos,after,none⟩::l) (some (fr,Z)) s Q=dM E ops l (xO dst fr (eB E fr Z t x)) s Q:=mW λ_=>xG
theorem Nn {t:Nat}{r:Option Operand}:dM E ops (⟨dst,.makeMap t r,ty,pos,after,none⟩::l) (some (fr,Z)) s Q=dM E ops l (xO dst fr (mH E fr Z t r)) s Q:=mW λ_=>FU
theorem Ir {t:Nat}{a c:Operand}:dM E ops (⟨dst,.makeSlice t a c,ty,pos,after,none⟩::l) (some (fr,Z)) s Q=dM E ops l (xO dst fr (kB E fr Z t a c)) s Q:=mW λ_=>Cl
theorem SZ {t:Nat}{x:Operand}{lo hi mx:Option Operand}:dM E ops (⟨dst,.slice t x lo hi mx,ty,pos,after,none⟩::l) (some (fr,Z)) s Q=dM E ops l (xO dst fr (sX E fr Z t x lo hi mx)) s Q:=mW λ_=>Jr
theorem It {t:Nat}{x:Operand}{f:Nat}:dM E ops (⟨dst,.fieldAddr t x f,ty,pos,after,none⟩::l) (some (fr,Z)) s Q=dM E ops l (xO dst fr (iB E fr Z t x f)) s Q:=mW λ_=>Cn
theorem S6 {t:Nat}{x:Operand}{f:Nat}:dM E ops (⟨dst,.field t x f,ty,pos,after,none⟩::l) (some (fr,Z)) s Q=dM E ops l (xO dst fr (rA E fr Z t x f)) s Q:=mW λ_=>Ju
theorem Is {t:Nat}{x i:Operand}:dM E ops (⟨dst,.indexAddr t x i,ty,pos,after,none⟩::l) (some (fr,Z)) s Q=dM E ops l (xO dst fr (bZ E fr Z t x i)) s Q:=mW λ_=>Cm
theorem S2 {t:Nat}{x i:Operand}:dM E ops (⟨dst,.index t x i,ty,pos,after,none⟩::l) (some (fr,Z)) s Q=dM E ops l (xO dst fr (q_ E fr Z t x i)) s Q:=mW λ_=>Jt
theorem Qd {t:Nat}{x k:Operand}{ok:Bool}:dM E ops (⟨dst,.lookup t x k ok,ty,pos,after,none⟩::l) (some (fr,Z)) s Q=dM E ops l (xO dst fr (dW E fr Z t x k ok)) s Q:=mW λ_=>G7
theorem Iq {t:Nat}{m k x:Operand}:dM E ops (⟨dst,.mapUpdate t m k x,ty,pos,after,none⟩::l) (some (fr,Z)) s Q=dM E ops l (xO dst fr (dR E fr Z t m k x)) s Q:=mW λ_=>Ck
theorem Np {t:Operand}{i:Nat}:dM E ops (⟨dst,.extract t i,ty,pos,after,none⟩::l) (some (fr,Z)) s Q=dM E ops l (xO dst fr (cU E fr Z t i)) s Q:=mW λ_=>FV
theorem Wh {x:Operand}:dM E ops (⟨dst,.next x true,ty,pos,after,none⟩::l) (some (fr,Z)) s Q=dM E ops l (xO dst fr (wY E fr Z x)) s Q:=mW λ_=>MB
theorem Kj {f:Nat}{a b:Array Operand}:dM E ops (⟨dst,.makeFunc (.func f) a b,ty,pos,after,none⟩::l) (some (fr,Z)) s Q=dM E ops l (xO dst fr (jN E fr Z f a b)) s Q:=mW λ_=>Ed
theorem Nr {b:Builtin}{args:Array Operand}{ats:Array Nat}:dM E ops (⟨dst,.call { callee:=.builtin b,args:=args,argTypes:=ats },ty,pos,after,none⟩::l) (some (fr,Z)) s Q=dM E ops l (xO dst fr (eL E fr Z b args ats)) s Q:=mW λ_=>FX
theorem Wl {f:Operand}{args:List Operand}{ats:Array Nat}:dM E ops (⟨dst,.call { callee:=.value f,args:=args.toArray,argTypes:=ats },ty,pos,after,none⟩::l) (some (fr,Z)) s Q=match aR fr f,eH fr args with
  |some (.fn k first cap),some l'=>Ai E k (first++l'++cap) Z dst fr ops l s Q
  |_,_=>False:=by
 show uF E ops (⟨dst,.call { callee:=.value f,args:=args.toArray,argTypes:=ats },ty,pos,after,none⟩::l) fr Z _=_;rw[Cj,ME];rfl
theorem IX {f:Nat}{args:List V}{v:V}{σ':Sg}(h:∀K,aB E f args Z K=K v σ'):Ai E f args Z dst fr ops l s Q=dM E ops l (some (cT fr dst v,σ')) s Q:=h _
abbrev KC (E:Env) (f:Nat) (args:List V) (Z:Sg) (v:V) (σ':Sg):Prop:=∀(dst:Option Nat) (fr:Fr) (ops:Array Oper) (l:List Oper) (s:List kH) (Q:X->Fr->Sg->Prop),Ai E f args Z dst fr ops l s Q=dM E ops l (some (cT fr dst v,σ')) s Q
theorem dD {f:Nat}{args:List V}{v:V}{σ':Sg}(h:∀K,aB E f args Z K=K v σ'):KC E f args Z v σ':=λ_ _ _ _ _ _=>h _
theorem aN {f:Nat}{args:List V}{P:V->Sg->Prop}(h:aB E f args Z P)(hp:∀v σ',P v σ'->dM E ops l (some (cT fr dst v,σ')) s Q):Ai E f args Z dst fr ops l s Q:=h.mono hp
end
theorem i_ {E:Env}{s:List kH}{fr fr':Fr}{Z σ':Sg}{Q:X->Fr->Sg->Prop}{id n:Nat}{ops:Array Oper}(h:cO E (ev E n) ops fr Z=some (fr',σ')):R E (.region id ops true) s fr Z Q=M E s .normal fr' σ' Q:=by
 unfold R;rw[KV];refine propext ⟨λ⟨m,fr1,σ1,h1,hq⟩=>?_,λhq=>⟨n,fr',σ',h,hq⟩⟩;have a:=vM (mO E (Nat.le_max_left n m)) h;rw[vM (mO E (ql n m)) h1]at a;cases a;exact hq
def nL (E:Env) (rs:List ResultVar) (K:V->Sg->Prop) (x:X) (fr:Fr) (Z:Sg):Prop:=match x with
 | .exit _=>False
 |_=>Gi E rs K fr Z
theorem TC {E:Env}{rs:List ResultVar}{K:V->Sg->Prop}{fr:Fr}{Z:Sg}:nL E rs K .ret fr Z=Gi E rs K fr Z:=rfl
theorem Kt {E:Env}{rs:List ResultVar}{K:V->Sg->Prop}{fr:Fr}{Z:Sg}:nL E rs K .normal fr Z=Gi E rs K fr Z:=rfl
theorem WG {E:Env}{F:Fn}{args:List V}{Z:Sg}{K:V->Sg->Prop}{fr:Fr}(h:Fr.init F.ntmps args=some fr):nT E F args Z K=R E F.code [] fr Z (nL E F.results K):=by
 unfold nT;rw[h];show Wp E F.code fr Z _=Wp E F.code fr Z _;congr 1
theorem aa4 {F:FT}{u:Nat}{v:V}:(FT.set F u v).get u=v:=by rw[FT.cI,az rfl]
theorem aa3 {F:FT}{t u:Nat}{v:V}(h:t≠u):(FT.set F u v).get t=F.get t:=by rw[FT.cI,an h]
def FT.fill (F:FT) (i:Nat):List V->FT
 | []=>F
 |v::r=>FT.fill (FT.set F i v) (i+1) r
theorem abU {F:FT}{i:Nat}:FT.fill F i []=F:=rfl
theorem abT {F:FT}{i:Nat}{v:V}{r:List V}:FT.fill F i (v::r)=FT.fill (FT.set F i v) (i+1) r:=rfl
abbrev GS:=And.intro @aa4 (And.intro @aa3 (And.intro @abU (And.intro @abT @UK)))
theorem fill_eq {n:Nat}:∀(l:List V) (F:FT) (i:Nat),i+l.length<=n->Fr.fill ⟨n,F⟩ i l=⟨n,FT.fill F i l⟩
 | [],_,_,_=>rfl
 |v::l,F,i,h=>by
  simp only[af]at h;rw[Fr.fill,Fr.uU,az (by omega),fill_eq l _ _ (by omega)];rfl
theorem aW {E:Env}{F:Fn}{args:List V}{Z:Sg}{K:V->Sg->Prop}(h:Nat.ble args.length F.ntmps=true):nT E F args Z K=R E F.code [] ⟨F.ntmps,FT.fill .leaf 0 args⟩ Z (nL E F.results K):=by
 refine WG ?_;unfold Fr.init;rw[h];dsimp only;rw[fill_eq _ _ _ (by rw[dh];exact jq h)]
end
end Go.Ax
end
section
namespace Go.Proofs.YtmbikbgdbbcbmaaGreatDoor
open Go Go.Ax
abbrev KP:=(And.intro (And.intro (And.intro (And.intro (And.intro (And.intro (And.intro (And.intro @UK @U6) (And.intro @WZ @WY)) (And.intro (And.intro @PL @PO) (And.intro @PN @Sw))) (And.intro (And.intro (And.intro @Z5 @Ka) (And.intro @Nf @m_lp)) (And.intro (And.intro @Nd @PM) (And.intro @JW @VL)))) (And.intro (And.intro (And.intro (And.intro @YT @YS) (And.intro @Sh @VM)) (And.intro (And.intro @YU @I0) (And.intro @TC @Kt))) (And.intro (And.intro (And.intro @Wi @Qf) (And.intro @Wf @S9)) (And.intro (And.intro @aab @S7) (And.intro @GD @Wj))))) (And.intro (And.intro (And.intro (And.intro (And.intro @SY @Ki) (And.intro @S8 @Wd)) (And.intro (And.intro @Nq @S0) (And.intro @Wh @BR))) (And.intro (And.intro (And.intro @Kj @Nn) (And.intro @Ir @SZ)) (And.intro (And.intro @It @S6) (And.intro @Is @S2)))) (And.intro (And.intro (And.intro (And.intro @Qd @Iq) (And.intro @Np @Nr)) (And.intro (And.intro @Wl @S3) (And.intro @aaa @Wg))) (And.intro (And.intro (And.intro @Ax.Fr.uU @Ax.Fr.vI) (And.intro @FT.cI @FT.vJ)) (And.intro (And.intro @bf.{1} @ay.{1}) (And.intro @ite_true.{1} @ite_false.{1})))))) (And.intro (And.intro (And.intro (And.intro (And.intro (And.intro @true_and @da) (And.intro @false_and @and_false)) (And.intro (And.intro @cg.{0,0} @Option.map_none.{0,0}) (And.intro @gk.{0,0} @Option.bind_none.{0,0}))) (And.intro (And.intro (And.intro @jd.{0} @aq.{0}) (And.intro @Option.getD_none.{0} @gz.{0})) (And.intro (And.intro @jt.{0} @bg.{0}) (And.intro @ck.{0} @List.getElem?_nil.{0})))) (And.intro (And.intro (And.intro (And.intro @cm.{0} @dj) (And.intro @mj @je)) (And.intro (And.intro @Bool.or_false @Bool.false_or) (And.intro @Bool.or_true @Bool.true_or))) (And.intro (And.intro (And.intro @ah @Bool.true_eq_false) (And.intro @jh @mh)) (And.intro (And.intro @nt @Bool.and_false) (And.intro @qc @qo.{0}))))) (And.intro (And.intro (And.intro (And.intro (And.intro @beq_self_eq_true.{0} @qh) (And.intro @decide_false @Nat.beq_refl)) (And.intro (And.intro @af.{0} @b9.{0}) (And.intro @ki.{0} @take_succ_cons.{0}))) (And.intro (And.intro (And.intro @take_nil.{0} @fc.{0}) (And.intro @oz.{0} @ot.{0})) (And.intro (And.intro @List.append_eq.{0} @cz.{0}) (And.intro @eu.{0} @ig.{0})))) (And.intro (And.intro (And.intro (And.intro @l6.{0} @nr.{0}) (And.intro @dh @lg)) (And.intro (And.intro @j9.{0} @l5.{0}) (And.intro @jc.{0} @OF))) (And.intro (And.intro (And.intro @Int.natCast_nonneg @GK) (And.intro @jB @P8)) (And.intro (And.intro @G3 @F8) (And.intro @gr.{0} (And.intro @Bool.not_eq_true @ne_eq.{1})))))))) (And.intro (And.intro (And.intro (And.intro (And.intro (And.intro (And.intro @not_true_eq_false @oe) (And.intro @gt_iff_lt.{0} @bl)) (And.intro (And.intro @FT.fill.eq_1 @FT.fill.eq_2) (And.intro @xO.eq_1 @xO.eq_2))) (And.intro (And.intro (And.intro @Ax.yielded.eq_1 @aR.eq_1) (And.intro @aR.eq_2 @aR.eq_3)) (And.intro (And.intro @aR.eq_4 @eH.eq_1) (And.intro @eH.eq_2 @lN.eq_1)))) (And.intro (And.intro (And.intro (And.intro @lN.eq_2 @qD.eq_1) (And.intro @qD.eq_2 @Ax.ofValue.eq_1)) (And.intro (And.intro @Ax.ofValue.eq_2 @bF.eq_1) (And.intro @bF.eq_2 @bF.eq_3))) (And.intro (And.intro (And.intro @bF.eq_4 @bF.eq_5) (And.intro @bF.eq_6 @bF.eq_7)) (And.intro (And.intro @bF.eq_8 @bF.eq_9) (And.intro @Ax.ofValues.eq_1 @Ax.ofValues.eq_2))))) (And.intro (And.intro (And.intro (And.intro (And.intro @cT.eq_1 @cT.eq_2) (And.intro @kA.eq_1 @sY.eq_1)) (And.intro (And.intro @HZ.eq_1 @rB.eq_1) (And.intro @fG.eq_1 @iH.eq_1))) (And.intro (And.intro (And.intro @j_.eq_1 @jM.eq_1) (And.intro @eV.eq_1 @oL.eq_1)) (And.intro (And.intro @mI.eq_1 @eB.eq_1) (And.intro @jN.eq_1 @mH.eq_1)))) (And.intro (And.intro (And.intro (And.intro @kB.eq_1 @sX.eq_1) (And.intro @iB.eq_1 @rA.eq_1)) (And.intro (And.intro @bZ.eq_1 @q_.eq_1) (And.intro @dW.eq_1 @dR.eq_1))) (And.intro (And.intro (And.intro @cU.eq_1 @eL.eq_1) (And.intro @Ax.builtin.eq_1 @Ax.builtin.eq_2)) (And.intro (And.intro @Ax.builtin.eq_3 @Ax.builtin.eq_4) (And.intro @Ax.builtin.eq_5 (And.intro @Ax.builtin.eq_6 @Ax.builtin.eq_7))))))) (And.intro (And.intro (And.intro (And.intro (And.intro (And.intro @Ax.builtin.eq_8 @Ax.builtin.eq_9) (And.intro @Ax.builtin.eq_10 @Ax.builtin.eq_11)) (And.intro (And.intro @Ax.builtin.eq_12 @Ax.isAgg.eq_1) (And.intro @Ax.isAgg.eq_2 @Ax.isAgg.eq_3))) (And.intro (And.intro (And.intro @GG.eq_1 @GG.eq_2) (And.intro @GG.eq_3 @Ax.fieldAddr.eq_1)) (And.intro (And.intro @Ax.field.eq_1 @Ax.field.eq_2) (And.intro @Ax.part.eq_1 @Ax.bin.eq_1)))) (And.intro (And.intro (And.intro (And.intro @Ax.bin.eq_2 @Ax.bin.eq_3) (And.intro @Ax.bin.eq_4 @Ax.bin.eq_5)) (And.intro (And.intro @Ax.bin.eq_6 @Ax.bin.eq_7) (And.intro @tZ.eq_1 @tZ.eq_2))) (And.intro (And.intro (And.intro @tZ.eq_3 @tZ.eq_4) (And.intro @tZ.eq_5 @tZ.eq_6)) (And.intro (And.intro @tZ.eq_7 @tZ.eq_8) (And.intro @Ax.arith.eq_1 @Ax.arith.eq_2))))) (And.intro (And.intro (And.intro (And.intro (And.intro @Ax.arith.eq_3 @Ax.arith.eq_4) (And.intro @Ax.arith.eq_5 @Ax.arith.eq_6)) (And.intro (And.intro @Ax.arith.eq_7 @Ax.arith.eq_8) (And.intro @Ax.arith.eq_9 @Ax.arith.eq_10))) (And.intro (And.intro (And.intro @Ax.arith.eq_11 @Ax.arith.eq_12) (And.intro @Ax.arith.eq_13 @Ax.arith.eq_14)) (And.intro (And.intro @Ax.arith.eq_15 @Ax.arith.eq_16) (And.intro @Ax.unop.eq_1 @Ax.unop.eq_2)))) (And.intro (And.intro (And.intro (And.intro @Ax.unop.eq_3 @Ax.isConst.eq_1) (And.intro @Ax.isConst.eq_2 @Ax.V.aY.eq_1)) (And.intro (And.intro @Ax.V.aY.eq_2 @Ax.V.aY.eq_3) (And.intro @Ax.V.aY.eq_4 @Ax.V.cells.eq_1))) (And.intro (And.intro (And.intro @Ax.V.cells.eq_2 @Ax.setCells.eq_1) (And.intro @Gi.eq_1 @Ax.results.eq_1)) (And.intro (And.intro @Ax.results.eq_2 @Ax.results.eq_3) (And.intro @Ax.Fr.init.eq_1 (And.intro @Ax.Fr.fill.eq_1 @Ax.Fr.fill.eq_2)))))))))
end Go.Proofs.YtmbikbgdbbcbmaaGreatDoor
end
section
namespace Go.Ax
open Go
theorem lX {a0 a1 r:Prop}(h:a0/\a1) (k:r):a0/\a1/\r:=by simp only[h,k,aj]
theorem iU {a0 a1 a2 r:Prop}(h:a0/\a1/\a2) (k:r):a0/\a1/\a2/\r:=by simp only[h,k,aj]
theorem fK {a0 a1 a2 a3 r:Prop}(h:a0/\a1/\a2/\a3) (k:r):a0/\a1/\a2/\a3/\r:=by simp only[h,k,aj]
theorem iT {a0 a1 a2 a3 a4 r:Prop}(h:a0/\a1/\a2/\a3/\a4) (k:r):a0/\a1/\a2/\a3/\a4/\r:=by simp only[h,k,aj]
theorem Ab {a0 a1 a2 a3 a4 a5 r:Prop}(h:a0/\a1/\a2/\a3/\a4/\a5) (k:r):a0/\a1/\a2/\a3/\a4/\a5/\r:=by simp only[h,k,aj]
theorem FB {a0 a1 a2 a3 a4 a5 a6 r:Prop}(h:a0/\a1/\a2/\a3/\a4/\a5/\a6) (k:r):a0/\a1/\a2/\a3/\a4/\a5/\a6/\r:=by simp only[h,k,aj]
theorem QJ {a0 a1 a2 a3 a4 a5 a6 a7 r:Prop}(h:a0/\a1/\a2/\a3/\a4/\a5/\a6/\a7) (k:r):a0/\a1/\a2/\a3/\a4/\a5/\a6/\a7/\r:=by simp only[h,k,aj]
theorem BF {a0 a1 a2 a3 a4 a5 a6 a7 a8 r:Prop}(h:a0/\a1/\a2/\a3/\a4/\a5/\a6/\a7/\a8) (k:r):a0/\a1/\a2/\a3/\a4/\a5/\a6/\a7/\a8/\r:=by simp only[h,k,aj]
theorem Kv {a0 a1 a2 a3 a4 a5 a6 a7 a8 a9 r:Prop}(h:a0/\a1/\a2/\a3/\a4/\a5/\a6/\a7/\a8/\a9) (k:r):a0/\a1/\a2/\a3/\a4/\a5/\a6/\a7/\a8/\a9/\r:=by simp only[h,k,aj]
inductive eJ {α β:Type} (P:α->β->Prop):List α->List β->Prop
 |nil:eJ P [] []
 |cons {a b l m}:P a b->eJ P l m->eJ P (a::l) (b::m)
namespace eJ
variable {α β:Type}{P Q:α->β->Prop}{l l':List α}{m m':List β}
theorem len (h:eJ P l m):l.length=m.length:=by
 induction h with
 |nil=>rfl
 |cons _ _ ih=>simp[ih]
theorem append (h:eJ P l m) (k:eJ P l' m'):eJ P (l++l') (m++m'):=by
 induction h with
 |nil=>exact k
 |cons p _ ih=>exact .cons p ih
theorem take (h:eJ P l m):∀n,eJ P (l.take n) (m.take n):=by
 induction h with
 |nil=>intro n;rw[take_nil,take_nil];exact .nil
 |cons p _ ih=>
  intro n;cases n with
  |zero=>exact .nil
  |succ n=>exact .cons p (ih n)
theorem drop (h:eJ P l m):∀n,eJ P (l.drop n) (m.drop n):=by
 induction h with
 |nil=>intro n;rw[ot,ot];exact .nil
 |cons p q ih=>
  intro n;cases n with
  |zero=>exact .cons p q
  |succ n=>exact ih n
theorem get (h:eJ P l m):∀(i:Nat) (x:β),m[i]?=some x->∃r,l[i]?=some r/\P r x:=by
 induction h with
 |nil=>intro i x e;cases e
 |cons p _ ih=>
  intro i x e;cases i with
  |zero=>cases e;exact⟨_,rfl,p⟩
  |succ i=>exact ih i x e
theorem mem (h:eJ P l m) {r:α}(hr:r∈l):∃x∈m,P r x:=by
 induction h with
 |nil=>cases hr
 |cons p _ ih=>
  rcases IT.1 hr with rfl | hr
  ·exact⟨_,IN ..,p⟩
  ·obtain⟨x,h1,h2⟩:=ih hr;exact⟨x,ae _ h1,h2⟩
theorem imp (h:eJ P l m) (k:∀a b,P a b->Q a b):eJ Q l m:=by
 induction h with
 |nil=>exact .nil
 |cons p _ ih=>exact .cons (k _ _ p) ih
theorem one {a:α}{b:β} (p:P a b):eJ P [a] [b]:=.cons p .nil
theorem map {γ:Type}{f:γ->α}{g:γ->β} (k:∀c,P (f c) (g c)):∀l:List γ,eJ P (l.map f) (l.map g)
 | []=>.nil
 |c::l=>.cons (k c) (map k l)
end eJ
def bD:V->Bool
 | .bS .. | .cZ .. | .imp .. | .bool _ | .int .. | .str _ | .fP | .aF | .bX | .rC | .rN=>true
 |_=>false
theorem aP {c:V}(h:bD c=true):c.aY=true:=by cases c <;> first | rfl | cases h
theorem jK {Z:Sg}{ty:Nat->Option Ty}{g:Bool}{n:Nat}{c:V}(h:bD c=true):bG Z ty g (n+1) c=some c:=by
 cases c <;> first | rfl | cases h
theorem cJ {Z:Sg}{ty:Nat->Option Ty}{g:Bool}{c:V}(h:bD c=true)(ht:cL g c=true):aU Z ty g c=some c:=by
 have e:aU.one Z ty g c=some c:=by
  unfold aU.one;rw[show dL=11+1 from rfl,jK h];simp only[ht,bf]
 cases c <;> first | exact e | cases h
theorem EK {Z:Sg}{ty:Nat->Option Ty}{g:Bool}{c:V}(h:bD c=true)(ht:cL g c=true):cG Z ty g c=some c:=by
 have:=cJ (Z:=Z) (ty:=ty) h ht;cases c <;> first | exact this | cases h
theorem bV {c:V}(h:bD c=true):cL true c=true:=by cases c <;> first | rfl | cases h
theorem f_ {α:Type}{f:α->Option α}:∀{l:List α},(∀x∈l,f x=some x)->aX f l=some l
 | [],_=>rfl
 |x::l,h=>by rw[aX,h x (IN ..),f_ λy hy=>h y (ae _ hy)]
theorem CJ {Z:Sg}{ty:Nat->Option Ty}{g:Bool}{b n t:Nat}{cs:List V}{ex:Bool}{i:Ty}(hb:Z[b]?=some (.cells t cs ex))(hty:ty t=some i)(hlen:n*i.size<=cs.length)
  (hi:∀c∈cs.take (n*i.size),bD c=true/\cL g c=true):∃full,aU Z ty g (.sl b 0 n none)=some (.bS g (rows i.size n (cs.take (n*i.size))) full):=by
 have hm:aX (λv=>match bG Z ty g 11 v with
   |some v=>if cL g v then some v else no "snap: borrowed"
   |none=>none) ((cs.drop 0).take (n*i.size))=some (cs.take (n*i.size)):=by
  rw[fc];refine f_ λx hx=>?_;rw[show 11=10+1 from rfl,jK (hi x hx).1];simp only[(hi x hx).2,bf]
 refine⟨ex&&decide (0<i.size)&&(0+n*i.size==cs.length),?_⟩
 show (match bG Z ty g 12 (.sl b 0 n none) with
  |some v=>if cL g v then some v else no "snap: borrowed"
  |none=>none)=_
 have e:bG Z ty g 12 (.sl b 0 n none)=some (.bS g (rows i.size n (cs.take (n*i.size))) (ex&&decide (0<i.size)&&(0+n*i.size==cs.length))):=by
  rw[bG];simp only[hb,hty];rw[az (by omega)]
  exact au (λo=>match o with
   |some l=>some (V.bS g (rows i.size n l) (ex&&decide (0<i.size)&&(0+n*i.size==cs.length)))
   |none=>none) hm
 rw[e];show (if (g || !g)=true then _ else _)=_;rw[az (by cases g <;> rfl)]
theorem mE {sz:Nat}:∀(rs:List (List V)),(∀r∈rs,r.length=sz)->rows sz rs.length rs.flatten=rs
 | [],_=>rfl
 |r::rs,h=>by
  have hr:=h r (IN ..);rw[af,rows,dw,mm (by omega),ak (by omega),List.drop_append_of_le_length (by omega),nf (by omega),cz,mE rs λx hx=>h x (ae _ hx)]
theorem oB {sz:Nat}:∀(rs:List (List V)),(∀r∈rs,r.length=sz)->rs.flatten.length=rs.length*sz
 | [],_=>by simp
 |r::rs,h=>by
  rw[dw,By,h r (IN ..),oB rs λx hx=>h x (ae _ hx),af,jk,mg]
theorem DB {sz:Nat}:∀(rs:List (List V)),(∀r∈rs,r.length=sz)->∀(i:Nat) (r:List V),rs[i]?=some r->(rs.flatten.drop (i*sz)).take sz=r
 | [],_,i,r,e=>by cases e
 |x::rs,h,0,r,e=>by
  cases e;have hr:=h x (IN ..);rw[iz,fc,dw,mm (by omega),ak (by omega)]
 |x::rs,h,i+1,r,e=>by
  have hr:=h x (IN ..);rw[dw,List.drop_append,nf (by rw[jk];omega),cz,show (i+1)*sz-x.length=i*sz by rw[jk];omega];exact DB rs (λy hy=>h y (ae _ hy)) i r e
structure Lay (α:Type) where
 P:List V->α->Prop
 n:Nat
 len:∀r x,P r x->r.length=n
 im:∀r x,P r x->∀c∈r,bD c=true
def IS {α:Type} (L:Lay α) (v:V) (l:List α):Prop:=(v=.aF/\l=[])\/∃g rs full,v=.bS g rs full/\eJ L.P rs l
def kI {α:Type} (L:Lay α) (v:V) (l:List α):Prop:=(v=.aF/\l=[])\/∃rs full,v=.bS false rs full/\eJ L.P rs l
def LS {α:Type} (L:Lay α) (t:Nat) (Z:Sg) (v:V) (l:List α):Prop:=IS L v l\/∃b cs ex rs,v=.sl b 0 l.length none/\Z[b]?=some (.cells t cs ex)/\eJ L.P rs l/\cs.take (l.length*L.n)=rs.flatten
def OS {α:Type} (L:Lay α) (t:Nat) (lo:Nat) (Z:Sg) (v:V) (l:List α):Prop:=(v=.aF/\l=[])\/∃b rs,lo<=b/\v=.sl b 0 l.length none/\Z[b]?=some (.cells t rs.flatten false)/\eJ L.P rs l
section
variable {α:Type}{L:Lay α}{E:Env}{Z:Sg}{v:V}{l:List α}{t:Nat}
theorem kI.is (h:kI L v l):IS L v l:=h.imp id λ⟨rs,full,e,a⟩=>⟨false,rs,full,e,a⟩
theorem IS.ls (h:IS L v l) (Z:Sg) (t:Nat):LS L t Z v l:=.inl h
theorem IS.bD (h:IS L v l):bD v=true:=by rcases h with⟨rfl,-⟩ | ⟨_,_,_,rfl,-⟩ <;> rfl
theorem kI.tag (h:kI L v l):cL false v=true:=by rcases h with⟨rfl,-⟩ | ⟨_,_,rfl,-⟩ <;> rfl
theorem Lay.lens {rs:List (List V)}(h:eJ L.P rs l):∀r∈rs,r.length=L.n:=λr hr=>by
 obtain⟨x,-,hx⟩:=h.mem hr;exact L.len r x hx
theorem Lay.flat {rs:List (List V)}(h:eJ L.P rs l):rs.flatten.length=l.length*L.n:=by rw[oB rs (Lay.lens h),h.len]
theorem OS.ls {lo:Nat}(h:OS L t lo Z v l):LS L t Z v l:=by
 rcases h with h | ⟨b,rs,-,e,hb,ha⟩
 ·exact .inl (.inl h)
 ·exact .inr ⟨b,_,_,rs,e,hb,ha,ak (by rw[Lay.flat ha];exact OF _)⟩
theorem LS.keep {Y:Sg}(h:LS L t Z v l) (k:∀(b t:Nat) (cs:List V) (ex:Bool),Z[b]?=some (.cells t cs ex)->Y[b]?=some (.cells t cs ex)):LS L t Y v l:=
 h.imp id λ⟨b,cs,ex,rs,e,hb,r⟩=>⟨b,cs,ex,rs,e,k _ _ _ _ hb,r⟩
theorem OS.keep {Y:Sg}{lo:Nat}(h:OS L t lo Z v l) (k:∀(b t:Nat) (cs:List V) (ex:Bool),lo<=b->Z[b]?=some (.cells t cs ex)->Y[b]?=some (.cells t cs ex)):OS L t lo Y v l:=
 h.imp id λ⟨b,rs,hl,e,hb,r⟩=>⟨b,rs,hl,e,k _ _ _ _ hl hb,r⟩
theorem nD {ts e:Nat}{si:Ty}(hts:E.ty ts=some si)(hk:si.kd=.sl e)(h:LS L t Z v l):lenOf E Z ts v=some l.length:=by
 unfold lenOf;rw[hts];simp only[hk];rcases h with (⟨rfl,rfl⟩ | ⟨g,rs,full,rfl,ha⟩) | ⟨b,cs,ex,rs,rfl,-⟩
 ·rfl
 ·show some rs.length=_;rw[ha.len]
 ·rfl
theorem FG {ts:Nat}{si ei:Ty}(hts:E.ty ts=some si)(hk:si.kd=.sl t)(ht:E.ty t=some ei)(hn:ei.size=L.n)(h:LS L t Z v l) {i:Nat}{x:α}(hx:l[i]?=some x) :
  ∃p r,indexAddr E ts v (.int .i64 (i:Int))=some p/\L.P r x/\(isAgg ei.kd=true->loadAt E Z t p=some (.agg r))/\(isAgg ei.kd=false->0<L.n->loadAt E Z t p=r.head?) /\
   ((∃g,p=.cZ g r)\/∃b o,p=.ref b o/\∃u cs ex,Z[b]?=some (.cells u cs ex)/\o+L.n<=cs.length/\(cs.drop o).take L.n=r):=by
 have hneg:¬ ((i:Int)<0):=by omega
 obtain⟨kd,size,bytes,zero⟩:=si;replace hk:kd=.sl t:=hk;subst hk;rcases h with (⟨rfl,rfl⟩ | ⟨g,rs,full,rfl,ha⟩) | ⟨b,cs,ex,rs,rfl,hb,ha,hc⟩
 ·cases hx
 ·obtain⟨r,hr,hp⟩:=ha.get i x hx;have hl:=L.len r x hp;refine⟨.cZ g r,r,?_,hp,λhg=>?_,λhg hn0=>?_,.inl ⟨g,rfl⟩⟩
  ·unfold indexAddr;simp only[hneg,ay,hts,ht,dz,hr];rw[az (by rw[hl,hn];exact qo)]
  ·unfold loadAt;simp only[ht,hg,bf];rw[az (by omega),ak (by omega)]
  ·unfold loadAt;simp only[ht,hg,ah,ay]
 ·obtain⟨r,hr,hp⟩:=ha.get i x hx;have hi:=(AI.1 hx).1;have hl:=L.len r x hp;have hfl:=Lay.flat ha
  have hlen:l.length*L.n<=cs.length:=by
   have:=au List.length hc;rw[bw,hfl]at this;omega
  have him:(i+1)*L.n<=l.length*L.n:=gq _ hi;rw[jk]at him;have ho:i*L.n+L.n<=cs.length:=by omega
  have hd:(cs.drop (i*L.n)).take L.n=r:=by
   have:=DB rs (Lay.lens ha) i r hr;rw[<- hc,List.drop_take,nq,ju (by omega)]at this;exact this
  refine⟨.ref b (i*L.n),r,?_,hp,λhg=>?_,λhg hn0=>?_,.inr ⟨b,_,rfl,_,_,_,hb,ho,hd⟩⟩
  ·unfold indexAddr;simp only[hneg,ay,hts,ht,dz];rw[az hi,hn,dh]
  ·unfold loadAt;simp only[ht,hb,hg,bf];rw[hn,az ho,hd]
  ·unfold loadAt;simp only[ht,hb,hg,ah,ay];rw[<- hd,List.head?_take,an (by omega),List.head?_drop]
theorem B5 {ei:Ty}(ht:E.ty t=some ei)(hn:ei.size=L.n)(h:LS L t Z v l):∃v',aU Z E.ty true v=some v'/\IS L v' l:=by
 rcases h with h | ⟨b,cs,ex,rs,rfl,hb,ha,hc⟩
 ·exact⟨v,cJ h.bD (bV h.bD),h⟩
 ·have hlen:l.length*L.n<=cs.length:=by
   have:=au List.length hc;rw[bw,Lay.flat ha]at this;omega
  obtain⟨full,e⟩:=CJ (g:=true) (n:=l.length) hb ht (by rw[hn];exact hlen) (λc hcm=>by
   rw[hn,hc]at hcm;obtain⟨r,hr,hcr⟩:=List.mem_flatten.1 hcm;obtain⟨x,-,hp⟩:=ha.mem hr;have:=L.im r x hp c hcr;exact⟨this,bV this⟩)
  refine⟨_,e,.inr ⟨true,rs,full,?_,ha⟩⟩;rw[hn,hc,<- ha.len,mE rs (Lay.lens ha)]
end
theorem aV {E:Env}{c:Code}{s:List kH}{w:Nat}{Q:X->Fr->Sg->Prop} (I:Nat->FT->Sg->Prop) (n:Nat)
  (step:∀i F Z,i<n->I i F Z->(∀F' σ',I (i+1) F' σ'->R E (.loop c) s ⟨w,F'⟩ σ' Q)->R E (.loop c) s ⟨w,F⟩ Z Q)
  (fin:∀F Z,I n F Z->R E (.loop c) s ⟨w,F⟩ Z Q):∀(k i:Nat) (F:FT) (Z:Sg),i+k=n->I i F Z->R E (.loop c) s ⟨w,F⟩ Z Q:=by
 intro k
 induction k with
 |zero=>intro i F Z e h;rw[lg]at e;subst e;exact fin F Z h
 |succ k ih=>intro i F Z e h;exact step i F Z (by omega) h λF' σ' h'=>ih (i+1) F' σ' (by omega) h'
end Go.Ax
end
section
namespace Go.Ax
open Go
section
def bB {α:Type} (L:Lay α) (t:Nat) (Z:Sg) (v:V) (l:List α):Prop:=(v=.aF/\l=[])\/∃b rs ex,v=.sl b 0 l.length none/\Z[b]?=some (.cells t rs.flatten ex)/\eJ L.P rs l
def aQ:V->Option Nat
 | .sl b _ _ _=>some b
 |_=>none
def Sp (Z σ':Sg) (w:V):Prop:=∀(c:Nat) (o:O),Z[c]?=some o->aQ w≠some c->σ'[c]?=some o
section
variable {α:Type}{L:Lay α}{E:Env}{Z:Sg}{w x:V}{l m:List α}{t ts:Nat}{si ei:Ty}{ats:Array Nat}
theorem bB.ls (h:bB L t Z w l):LS L t Z w l:=by
 rcases h with h | ⟨b,rs,ex,e,hb,ha⟩
 ·exact .inl (.inl h)
 ·exact .inr ⟨b,_,_,rs,e,hb,ha,ak (by rw[Lay.flat ha];exact OF _)⟩
theorem bB.keep {σ':Sg}(h:bB L t Z w l) (k:∀c o,aQ w=some c->Z[c]?=some o->σ'[c]?=some o):bB L t σ' w l:=by
 rcases h with h | ⟨b,rs,ex,rfl,hb,ha⟩
 ·exact .inl h
 ·exact .inr ⟨b,rs,ex,rfl,k b _ rfl hb,ha⟩
theorem bB.app (h:bB L t Z w l) (Y:Sg):bB L t (Z++Y) w l:=h.keep λc o _ e=>by
 rw[b8 (AI.1 e).1];exact e
theorem Sp.refl (Z:Sg) (w:V):Sp Z Z w:=λ_ _ h _=>h
theorem dQ {a b c:Nat}(h:roomy b c=true)(hab:a<=b):roomy a c=true:=by
 unfold roomy at h ⊢;rw[aa]at h ⊢;generalize 281474976710656=B at h ⊢;have h2:(2*a+256)*(c+1)<=(2*b+256)*(c+1):=gq _ (Nat.add_le_add_right (Nat.mul_le_mul_left 2 hab) 256);exact fh h2 h
theorem AA {a b c:Nat}(h:roomy b c=true)(hab:a<=b):pO a c=true:=by
 unfold roomy at h;unfold pO;rw[aa]at h ⊢;generalize 281474976710656=B at h ⊢;have h2:a*(c+1)<=(2*b+256)*(c+1):=gq _ (by omega);exact fh h2 h
theorem kP (hts:E.ty ts=some si)(hk:si.kd=.sl t)(ht:E.ty t=some ei)(hn:ei.size=L.n)(hn0:0<L.n)(hpl:eA E ats=true)(hats:ats[0]?=some ts)(h:bB L t Z w l) {new:List (List V)}
  (hx:elems Z ei.size x=some (new.flatten,m.length))(hm:eJ L.P new m)(hr:roomy (l.length+m.length) ei.bytes=true) :
  ∃w' σ',append E Z ats w x=some (w',σ')/\bB L t σ' w' (l++m)/\Sp Z σ' w/\Z.length<=σ'.length/\∀b,aQ w'=some b->aQ w=some b\/Z.length<=b:=by
 obtain⟨kd,size,bytes,zero⟩:=si;replace hk:kd=.sl t:=hk;subst hk;have hfm:=Lay.flat hm;have hne:(ei.size==0)=false:=by rw[hn];simp;omega
 have hr2:pO m.length ei.bytes=true:=AA hr (by omega);unfold append;simp only[hats,hts,ht,hpl,hne,hx,dj,je,ah,ay];rcases h with⟨rfl,rfl⟩ | ⟨b,rs,ex,rfl,hbk,ha⟩
 ·by_cases h0:m.length=0
  ·simp only[h0,bf];obtain rfl:=ik.1 h0;exact⟨_,_,rfl,.inl ⟨rfl,rfl⟩,Sp.refl _ _,OF _,λb e=>by cases e⟩
  ·simp only[h0,ay,hr2,bf];refine⟨_,_,rfl,.inr ⟨Z.length,new,false,by rw[cz],by simp,by rw[cz];exact hm⟩,λc o e _=>?_,by simp,λb e=>by cases e;exact .inr (OF _)⟩;rw[b8 (AI.1 e).1];exact e
 ·have hfa:=Lay.flat ha;have hlt:=(AI.1 hbk).1
  have hform:(t==t&&decide (l.length*ei.size<=rs.flatten.length)&&roomy (l.length+m.length) ei.bytes)=true:=by
   rw[hr,hfa,hn];simp
  simp only[hbk,dh,hform,dj,ah,ay];by_cases h0:m.length=0
  ·obtain rfl:=ik.1 h0
   have hnew:new=[]:=by
    have:=hm.len;exact ik.1 (by simpa using this)
   subst hnew;rw[az (by rw[hfa,hn];simp)];refine⟨_,_,rfl,.inr ⟨b,rs,ex,by simp,?_,by simpa using ha⟩,λc o e hne=>?_,by simp,λb e=>.inl e⟩
   ·rw[bt hlt];unfold setCells;rw[hn,ak (by rw[hfa];exact OF _),nf (by rw[hfa];simp)];simp
   ·rw[No (λe2=>hne (by rw[e2];rfl))];exact e
  ·have hbig:¬ (l.length+m.length)*ei.size<=rs.flatten.length:=by
    rw[hfa,hn,og];have:0<m.length*L.n:=Nat.mul_pos (Nat.pos_of_ne_zero h0) hn0;omega
   have htk:rs.flatten.take (l.length*ei.size)=rs.flatten:=ak (by rw[hfa,hn];exact OF _);have hfl:rs.flatten++new.flatten=(rs++new).flatten:=by simp
   simp only[hbig,ay,bf,htk,fc,hfl];cases ex with
   |true=>
    refine⟨_,_,rfl,.inr ⟨Z.length,rs++new,false,by simp,by simp,ha.append hm⟩,λc o e _=>?_,by simp,λb e=>by cases e;exact .inr (OF _)⟩;rw[b8 (AI.1 e).1];exact e
   |false=>
    refine⟨_,_,rfl,.inr ⟨Z.length,rs++new,false,by simp,by simp,ha.append hm⟩,λc o e hne=>?_,by simp,λb e=>by cases e;exact .inr (OF _)⟩;have hc:=(AI.1 e).1;rw[b8 (by simpa using hc),No (λe2=>hne (by rw[e2];rfl))];exact e
theorem Ro (hts:E.ty ts=some si)(hk:si.kd=.sl t)(ht:E.ty t=some ei)(hn:ei.size=L.n)(hn0:0<L.n)(hpl:eA E ats=true)(hats:ats[0]?=some ts) {new:List (List V)}
  (hx:elems Z ei.size x=some (new.flatten,m.length))(hm:eJ L.P new m)(hr:pO m.length ei.bytes=true) :
  ∃w' σ',append E Z ats .aF x=some (w',σ')/\bB L t σ' w' m:=by
 obtain⟨kd,size,bytes,zero⟩:=si;replace hk:kd=.sl t:=hk;subst hk;have hne:(ei.size==0)=false:=by rw[hn];simp;omega
 unfold append;simp only[hats,hts,ht,hpl,hne,hx,dj,je,ah,ay];by_cases h0:m.length=0
 ·simp only[h0,bf];obtain rfl:=ik.1 h0;exact⟨_,_,rfl,.inl ⟨rfl,rfl⟩⟩
 ·simp only[h0,ay,hr,bf];exact⟨_,_,rfl,.inr ⟨Z.length,new,false,rfl,by simp,hm⟩⟩
theorem lW {r:List V}{ex:Bool}{Y:Sg}{n:Nat}(hr:r.length=n):elems (Y++[.cells t r ex]) n (.sl Y.length 0 1 none)=some ([r].flatten,1):=by
 unfold elems;simp[List.take_of_length_le (Nat.le_of_eq hr),hr]
theorem EE {rs:List (List V)}(h:eJ L.P rs l):F7 L.n rs=true:=by
 cases h with
 |nil=>rfl
 |cons p _=>show (_==_)=true;rw[L.len _ _ p];exact qo
theorem rV (ia:IS L x l) (Z:Sg):∃rs,elems Z L.n x=some (rs.flatten,l.length)/\eJ L.P rs l:=by
 rcases ia with⟨rfl,rfl⟩ | ⟨g,rs,full,rfl,ha⟩
 ·exact⟨[],rfl,.nil⟩
 ·exact⟨rs,by unfold elems;simp only[];rw[az (EE ha),ha.len],ha⟩
theorem Qy (ia:LS L t Z x l):∃rs,elems Z L.n x=some (rs.flatten,l.length)/\eJ L.P rs l:=by
 rcases ia with ia | ⟨b,cs,ex,rs,rfl,hb,ha,hc⟩
 ·exact rV ia Z
 ·refine⟨rs,?_,ha⟩
  have:l.length*L.n<=cs.length:=by
   have:=au List.length hc;rw[bw,Lay.flat ha]at this;omega
  unfold elems;simp only[hb,dh,fc];rw[az this,hc]
theorem eJ.set {β γ:Type}{P:β->γ->Prop}{a:List β}{b:List γ}(h:eJ P a b) {r:β}{y:γ}(hr:P r y):∀i,eJ P (a.set i r) (b.set i y):=by
 induction h with
 |nil=>intro i;cases i <;> exact .nil
 |cons p q ih=>
  intro i;cases i with
  |zero=>exact .cons hr q
  |succ i=>exact .cons p (ih i)
theorem CN {sz:Nat}:∀(rs:List (List V)) (i:Nat) (r:List V),(∀x∈rs,x.length=sz)->r.length=sz->i<rs.length->setCells rs.flatten (i*sz) r=(rs.set i r).flatten
 | [],i,r,_,_,h=>by simp at h
 |y::rs,0,r,hl,hr,_=>by
  have hy:=hl y (IN ..);unfold setCells;rw[iz,ki,cz,dh,l6,dw,dw,hr,<- hy,List.drop_left]
 |y::rs,i+1,r,hl,hr,h=>by
  have hy:=hl y (IN ..);have ih:=CN rs i r (λx hx=>hl x (ae _ hx)) hr (by simpa using h);unfold setCells at ih ⊢;rw[nr,dw,dw,<- ih,jk,List.take_append,List.drop_append,ak (by omega),nf (by omega),cz,show i*sz+sz-y.length=i*sz by omega,show i*sz+sz+r.length-y.length=i*sz+r.length by omega,cw,cw,cw]
theorem EG (hts:E.ty ts=some si)(hk:si.kd=.sl t)(ht:E.ty t=some ei)(hn:ei.size=L.n)(h:bB L t Z w l) {i:Nat}(hi:i<l.length) {u:V}{y:α}(hu:L.P u.cells y)(hok:u.cells.all V.aY=true) :
  ∃b,indexAddr E ts w (.int .i64 (i:Int))=some (.ref b (i*L.n))/\aQ w=some b/\∃σ',storeAt E Z t (.ref b (i*L.n)) u=some σ'/\bB L t σ' w (l.set i y)/\Sp Z σ' w/\σ'.length=Z.length:=by
 obtain⟨kd,size,bytes,zero⟩:=si;replace hk:kd=.sl t:=hk;subst hk;have hneg:¬ ((i:Int)<0):=by omega
 rcases h with⟨rfl,rfl⟩ | ⟨b,rs,ex,rfl,hbk,ha⟩
 ·simp at hi
 ·have hlt:=(AI.1 hbk).1;have hfa:=Lay.flat ha;have hul:=L.len _ _ hu;have him:(i+1)*L.n<=l.length*L.n:=gq _ hi;rw[jk]at him;have hrl:i<rs.length:=by rw[ha.len];exact hi
  refine⟨b,?_,rfl,_,?_,.inr ⟨b,rs.set i u.cells,ex,by rw[ec],bt hlt,ha.set hu i⟩,λc o e hne=>?_,by simp⟩
  ·unfold indexAddr;simp only[hneg,ay,hts,ht,dz,hi,bf,hn,dh]
  ·unfold storeAt;simp only[ht,hbk];rw[az (by simp only[hul,hn,hok,mh,qo,jh,aa];rw[hfa];omega),CN rs i u.cells (Lay.lens ha) hul hrl]
  ·rw[No (λe2=>hne (by rw[e2];rfl))];exact e
theorem pJ (ht:E.ty t=some ei)(hn:ei.size=L.n)(hF:∀r x,L.P r x->∀c∈r,cL false c=true)(h:bB L t Z w l):∃v',cG Z E.ty false w=some v'/\kI L v' l:=by
 rcases h with⟨rfl,rfl⟩ | ⟨b,rs,ex,rfl,hb,ha⟩
 ·exact⟨.aF,rfl,.inl ⟨rfl,rfl⟩⟩
 ·have hfl:=Lay.flat ha;have htk:rs.flatten.take (l.length*L.n)=rs.flatten:=ak (by omega)
  obtain⟨full,e⟩:=CJ (g:=false) (n:=l.length) hb ht (by rw[hn];omega) (λc hcm=>by
   rw[hn,htk]at hcm;obtain⟨r,hr,hcr⟩:=List.mem_flatten.1 hcm;obtain⟨x,-,hp⟩:=ha.mem hr;exact⟨L.im r x hp c hcr,hF r x hp c hcr⟩)
  refine⟨_,e,.inr ⟨rs,full,?_,ha⟩⟩;rw[hn,htk,<- ha.len,mE rs (Lay.lens ha)]
theorem yO {lo hi:Option V}{a b:Nat}(hts:E.ty ts=some si)(hk:si.kd=.sl t)(ht:E.ty t=some ei)(hn:ei.size=L.n) (ia:IS L w l)(hb:hi=none/\b=l.length\/hi=some (.int .i64 (b:Int)))(ha:lo=none/\a=0\/lo=some (.int .i64 (a:Int)))(hab:a<=b)(hbl:b<=l.length) :
  ∃w',(∀Z,slice E Z ts w lo hi none=some w')/\IS L w' ((l.take b).drop a)/\(kI L w l->kI L w' ((l.take b).drop a)):=by
 obtain⟨kd,size,bytes,zero⟩:=si;replace hk:kd=.sl t:=hk;subst hk
 have bd:∀(n d:Nat) (o:Option V) (c:Nat),(o=none/\c=d\/o=some (.int .i64 (c:Int)))->c<=n->bound n o d=some c:=by
  intro n d o c h hc;rcases h with⟨rfl,rfl⟩ | rfl
  ·rfl
  ·unfold bound;simp only[];rw[az]
   ·rfl
   ·simp only[ai,aa];omega
 rcases ia with⟨rfl,rfl⟩ | ⟨g,rs,full,rfl,hal⟩
 ·have hb0:b=0:=by simpa using hbl
  subst hb0;obtain rfl:a=0:=by omega
  refine⟨.aF,λZ=>?_,.inl ⟨rfl,by simp⟩,λ_=>.inl ⟨rfl,by simp⟩⟩;unfold slice;simp only[hts,ht,jt,nt];rw[show bound 0 none 0=some 0 from rfl];simp only[];rw[bd 0 0 hi 0 (by rcases hb with⟨e,_⟩ | e;exact .inl ⟨e,rfl⟩;exact .inr e) (OF _)];simp only;rw[bd 0 0 lo 0 ha (OF _)]
 ·have hlen:=hal.len
  have hres:eJ L.P ((rs.drop a).take (b-a)) ((l.take b).drop a):=by
   rw[show (l.take b).drop a=(l.drop a).take (b-a) by rw[List.drop_take]];exact (hal.drop a).take _
  refine⟨.bS g ((rs.drop a).take (b-a)) (Dy none rs.length b full rs.length),λZ=>?_,.inr ⟨g,_,_,rfl,hres⟩,λhF=>.inr ⟨(rs.drop a).take (b-a),Dy none rs.length b full rs.length,?_,hres⟩⟩
  ·unfold slice;simp only[hts,ht,jt,nt];rw[hn,EE hal];simp only[dj,ah,ay];rw[show bound rs.length none rs.length=some rs.length from rfl];simp only;rw[bd rs.length rs.length hi b (by rw[hlen];exact hb) (by omega)];simp only;rw[bd b 0 lo a ha hab]
  ·rcases hF with⟨e,-⟩ | ⟨_,_,e,-⟩
   ·cases e
   ·cases e;rfl
end
end
end Go.Ax
end
section
namespace Go.Proofs.YtmbikbgdbbcbmaaGreatDoor
open Go Go.Ax Go.AxS
section
structure bE (E:Env):Prop where
 mB:E.ty 3=some { kd:=.int .i64,size:=1,bytes:=8,zero:=.int .i64 0 }
 Ee:E.ty 4=some { kd:=.bool,size:=1,bytes:=1,zero:=.bool false }
 ty5:E.ty 5=some { kd:=.int .u8,size:=1,bytes:=1,zero:=.int .u8 0 }
 dG:E.ty 9=some { kd:=.str,size:=1,bytes:=16,zero:=.str [] }
 BN:E.ty 22=some { kd:=.sl 46,size:=1,bytes:=24,zero:=.aF }
 iI:E.ty 23=some { kd:=.sl 51,size:=1,bytes:=24,zero:=.aF }
 a_:E.ty 24=some { kd:=.sl 9,size:=1,bytes:=24,zero:=.aF }
 Ow:E.ty 40=some { kd:=.sl 24,size:=1,bytes:=24,zero:=.aF }
 fS:E.ty 44=some { kd:=.sl 82,size:=1,bytes:=24,zero:=.aF }
 bM:E.ty 46=some { kd:=.jT [(0,9),(1,24),(2,24),(3,24),(4,44)],size:=5,bytes:=112,zero:=.agg [.str [],.aF,.aF,.aF,.aF] }
 cE:E.ty 51=some { kd:=.jT [(0,4),(1,9)],size:=2,bytes:=24,zero:=.agg [.bool false,.str []] }
 ty64:E.ty 64=some { kd:=.int .i64,size:=1,bytes:=8,zero:=.int .i64 0 }
 Ov:E.ty 68=some { kd:=.sl 105,size:=1,bytes:=24,zero:=.aF }
 dB:E.ty 82=some { kd:=.jT [(0,9),(1,3),(2,24),(3,24),(4,3)],size:=5,bytes:=80,zero:=.agg [.str [],.int .i64 0,.aF,.aF,.int .i64 0] }
 Hl:E.ty 97=some { kd:=.map 9 9,size:=1,bytes:=8,zero:=.bX }
 rG:E.ty 105=some { kd:=.sl 4,size:=1,bytes:=24,zero:=.aF }
 XG:E.ty 107=some { kd:=.map 9 24,size:=1,bytes:=8,zero:=.bX }
 tY:E.ty 109=some { kd:=.map 9 4,size:=1,bytes:=8,zero:=.bX }
 Ox:E.ty 115=some { kd:=.sl 3,size:=1,bytes:=24,zero:=.aF }
 aau:E.hspec 197=none
 X4:E.spec 197=none
 abm:E.fn 197=some (aA Tryz.f197)
 ZA:E.mode 197=.eS
 aav:E.hspec 196=none
 X5:E.spec 196=none
 abn:E.fn 196=some (aA Tryz.f196)
 ZB:E.mode 196=.eS
 aaB:E.hspec 173=none
 Ya:E.spec 173=none
 abt:E.fn 173=some (aA Tryz.f173)
 ZG:E.mode 173=.eS
 aaZ:E.hspec 100=none
 Yy:E.spec 100=none
 abR:E.fn 100=some (aA Tryz.f100)
 Z3:E.mode 100=.eS
 aaC:E.hspec 172=none
 Yb:E.spec 172=none
 abu:E.fn 172=some (aA Tryz.f172)
 ZH:E.mode 172=.eS
 aaJ:E.hspec 138=none
 Yi:E.spec 138=none
 abA:E.fn 138=some (aA Tryz.f138)
 ZN:E.mode 138=.eS
 aaK:E.hspec 137=none
 Yj:E.spec 137=none
 abB:E.fn 137=some (aA Tryz.f137)
 ZO:E.mode 137=.eS
 aaS:E.hspec 111=none
 Yr:E.spec 111=none
 abJ:E.fn 111=some (aA Tryz.f111)
 ZW:E.mode 111=.eS
 hs54:E.hspec 54=none
 sp54:E.spec 54=none
 fn54:E.fn 54=some (aA Tryz.f54)
 md54:E.mode 54=.eS
 hs56:E.hspec 56=none
 sp56:E.spec 56=none
 fn56:E.fn 56=some (aA Tryz.f56)
 md56:E.mode 56=.eS
 hs84:E.hspec 84=none
 sp84:E.spec 84=none
 fn84:E.fn 84=some (aA Tryz.f84)
 md84:E.mode 84=.eS
 hs96:E.hspec 96=none
 sp96:E.spec 96=none
 fn96:E.fn 96=some (aA Tryz.f96)
 md96:E.mode 96=.eS
 aaR:E.hspec 112=none
 Yq:E.spec 112=none
 abI:E.fn 112=some (aA Tryz.f112)
 ZV:E.mode 112=.eS
 hs46:E.hspec 46=none
 sp46:E.spec 46=none
 fn46:E.fn 46=some (aA Tryz.f46)
 md46:E.mode 46=.eS
 hs45:E.hspec 45=none
 sp45:E.spec 45=none
 fn45:E.fn 45=some (aA Tryz.f45)
 md45:E.mode 45=.eS
 aaT:E.hspec 110=none
 Ys:E.spec 110=none
 abK:E.fn 110=some (aA Tryz.f110)
 ZX:E.mode 110=.eS
 hs74:E.hspec 74=none
 sp74:E.spec 74=none
 fn74:E.fn 74=some (aA Tryz.f74)
 md74:E.mode 74=.shared
 hs12:E.hspec 12=none
 OV:E.spec 12=none
 fn12:E.fn 12=some (aA Tryz.f12)
 md12:E.mode 12=.eS
 aam:E.hspec 236=none
 XV:E.spec 236=none
 abd:E.fn 236=some (aA Tryz.f236)
 Zs:E.mode 236=.eS
 aah:E.hspec 266=none
 XQ:E.spec 266=none
 aa8:E.fn 266=some (aA Tryz.f266)
 Zn:E.mode 266=.eS
 aal:E.hspec 237=none
 XU:E.spec 237=none
 abc:E.fn 237=some (aA Tryz.f237)
 Zr:E.mode 237=.eS
 aai:E.hspec 265=none
 XR:E.spec 265=none
 aa9:E.fn 265=some (aA Tryz.f265)
 Zo:E.mode 265=.eS
 aat:E.hspec 199=none
 X2:E.spec 199=none
 abl:E.fn 199=some (aA Tryz.f199)
 Zz:E.mode 199=.eS
 aay:E.hspec 183=none
 X8:E.spec 183=none
 abp:E.fn 183=some (aA Tryz.f183)
 ZD:E.mode 183=.eS
 aaH:E.hspec 150=none
 Yg:E.spec 150=none
 aby:E.fn 150=some (aA Tryz.f150)
 ZL:E.mode 150=.eS
 aax:E.hspec 184=none
 X7:E.spec 184=none
 abo:E.fn 184=some (aA Tryz.f184)
 ZC:E.mode 184=.eS
 aas:E.hspec 212=none
 X1:E.spec 212=none
 abk:E.fn 212=some (aA Tryz.f212)
 Zy:E.mode 212=.eS
 aaA:E.hspec 181=none
 X_:E.spec 181=none
 abr:E.fn 181=some (aA Tryz.f181)
 ZF:E.mode 181=.eS
 aaq:E.hspec 214=none
 XZ:E.spec 214=none
 abh:E.fn 214=some (aA Tryz.f214)
 Zw:E.mode 214=.eS
 aap:E.hspec 215=none
 XY:E.spec 215=none
 abg:E.fn 215=some (aA Tryz.f215)
 Zv:E.mode 215=.eS
 aaz:E.hspec 182=none
 X9:E.spec 182=none
 abq:E.fn 182=some (aA Tryz.f182)
 ZE:E.mode 182=.eS
 aao:E.hspec 216=none
 XX:E.spec 216=none
 abf:E.fn 216=some (aA Tryz.f216)
 Zu:E.mode 216=.eS
 aan:E.hspec 217=none
 XW:E.spec 217=none
 abe:E.fn 217=some (aA Tryz.f217)
 Zt:E.mode 217=.eS
 aaI:E.hspec 149=none
 Yh:E.spec 149=none
 abz:E.fn 149=some (aA Tryz.f149)
 ZM:E.mode 149=.eS
 aaQ:E.hspec 119=none
 Yp:E.spec 119=none
 abH:E.fn 119=some (aA Tryz.f119)
 ZU:E.mode 119=.eS
 aaG:E.hspec 156=none
 Yf:E.spec 156=none
 abx:E.fn 156=some (aA Tryz.f156)
 ZK:E.mode 156=.eS
 aaF:E.hspec 157=none
 Ye:E.spec 157=none
 abw:E.fn 157=some (aA Tryz.f157)
 ZJ:E.mode 157=.eS
 aaE:E.hspec 158=none
 Yd:E.spec 158=none
 abv:E.fn 158=some (aA Tryz.f158)
 ZI:E.mode 158=.eS
 aaP:E.hspec 120=none
 Yo:E.spec 120=none
 abG:E.fn 120=some (aA Tryz.f120)
 ZT:E.mode 120=.eS
 hs68:E.hspec 68=none
 sp68:E.spec 68=none
 fn68:E.fn 68=some (aA Tryz.f68)
 md68:E.mode 68=.eS
 aaj:E.hspec 264=none
 XS:E.spec 264=none
 aba:E.fn 264=some (aA Tryz.f264)
 Zp:E.mode 264=.eS
 aag:E.hspec 300=none
 XO:E.spec 300=none
 aa7:E.fn 300=some (aA Tryz.f300)
 Zm:E.mode 300=.eS
 aaf:E.hspec 321=none
 XN:E.spec 321=none
 aa6:E.fn 321=some (aA Tryz.f321)
 Zl:E.mode 321=.eS
 hs82:E.hspec 82=none
 sp82:E.spec 82=none
 fn82:E.fn 82=some (aA Tryz.f82)
 md82:E.mode 82=.eS
 hs80:E.hspec 80=none
 sp80:E.spec 80=none
 fn80:E.fn 80=some (aA Tryz.f80)
 md80:E.mode 80=.eS
 aar:E.hspec 213=none
 X0:E.spec 213=none
 abj:E.fn 213=some (aA Tryz.f213)
 Zx:E.mode 213=.eS
 aak:E.hspec 250=none
 XT:E.spec 250=none
 abb:E.fn 250=some (aA Tryz.f250)
 Zq:E.mode 250=.eS
 hs99:E.hspec 99=none
 sp99:E.spec 99=none
 fn99:E.fn 99=some (aA Tryz.f99)
 md99:E.mode 99=.eS
 aaM:E.hspec 132=none
 Yl:E.spec 132=none
 abD:E.fn 132=some (aA Tryz.f132)
 ZQ:E.mode 132=.eS
 hs91:E.hspec 91=none
 sp91:E.spec 91=none
 fn91:E.fn 91=some (aA Tryz.f91)
 md91:E.mode 91=.shared
 aaN:E.hspec 122=none
 Ym:E.spec 122=none
 abE:E.fn 122=some (aA Tryz.f122)
 ZR:E.mode 122=.shared
 aaw:E.hspec 185=none
 X6:E.spec 185=some kJ
 aaD:E.hspec 159=none
 Yc:E.spec 159=some nX
 Qj:E.hspec 79=some (pZ 9)
 WM:aM E (cutAt [1,1,0,1,2,2,1,0,2,1] (aA Tryz.f196).code)=true
 WQ:aM E (cutAt [1,0,1,2,2,1,0,2,0] (aA Tryz.f138).code)=true
 US:fJ E (opsOf (cutAt [1,0] (aA Tryz.f137).code))=.no
 VP:cH E .no (opsOf (cutAt [1,0] (aA Tryz.f137).code))=some [⟨2,4,true,false⟩,  ⟨2,7,true,false⟩,  ⟨2,10,true,false⟩,  ⟨5,7,true,false⟩,  ⟨5,10,true,false⟩,  ⟨8,10,true,false⟩]
 UR:fJ E (opsOf (cutAt [1,1,0,1,2,2,1,0,2,1] (aA Tryz.f137).code))=.no
 VO:cH E .no (opsOf (cutAt [1,1,0,1,2,2,1,0,2,1] (aA Tryz.f137).code))=some [⟨7,10,true,false⟩,  ⟨7,14,true,false⟩,  ⟨8,10,true,false⟩,  ⟨8,14,true,false⟩]
 TM:aM E (cutAt [1,1,1,0,1,2,2,1,0,2,1,1,0,1,2,2,1,0,2,0] (aA Tryz.f111).code)=true
 TL:aM E (cutAt [1,1,1,1,0,1,2,2,1,0,2,0] (aA Tryz.f111).code)=true
 WI:aM E (cutAt [1,1,1,1,0,1,2,2,1,0,2,1,2,2,1,0,2,1,2,2,1,0,2] (aA Tryz.f96).code)=true
 WU:aM E (cutAt [1,1,1,1,0,1,2,2,1,0,2,0] (aA Tryz.f112).code)=true
 TK:aM E (cutAt [1,1,1,1,1,1,1,1,1,1,1,1,1,1,0,1,2,2,1,0,2,1,0,1,2,2,1,0,2,0] (aA Tryz.f112).code)=true
 aci:aM E (cutAt [1,0,1,2,2,1,0,2,1,1,0,0] (aA Tryz.f46).code)=true
 WL:aM E (cutAt [1,1,1,0,1,2,2,1,0,2,1,1,1,0,0] (aA Tryz.f46).code)=true
 WK:aM E (cutAt [1,1,1,1,0,1,2,2,1,0,2,1,2,2,1,1,0,2,1,1,0,0] (aA Tryz.f46).code)=true
 WJ:aM E (cutAt [1,1,1,1,1,0,1,1,0,0] (aA Tryz.f46).code)=true
 UU:fJ E (opsOf (cutAt [1,0] (aA Tryz.f110).code))=.no
 VS:cH E .no (opsOf (cutAt [1,0] (aA Tryz.f110).code))=some [⟨1,31,false,true⟩,  ⟨3,31,false,true⟩,  ⟨5,31,false,true⟩,  ⟨6,31,false,true⟩,  ⟨8,31,false,true⟩,  ⟨10,31,false,true⟩,  ⟨12,31,false,true⟩,  ⟨13,31,false,true⟩,  ⟨15,31,false,true⟩,  ⟨17,31,false,true⟩,  ⟨19,31,false,true⟩,  ⟨20,31,false,true⟩,  ⟨22,31,false,true⟩,  ⟨24,31,false,true⟩,  ⟨26,31,false,true⟩,  ⟨27,31,false,true⟩,  ⟨29,31,false,true⟩]
 UT:fJ E (opsOf (cutAt [1,1,1,0,1,2,2,1,1,0,2,1] (aA Tryz.f110).code))=.no
 VQ:cH E .no (opsOf (cutAt [1,1,1,0,1,2,2,1,1,0,2,1] (aA Tryz.f110).code))=some [⟨4,38,false,true⟩,  ⟨33,38,false,true⟩,  ⟨35,38,false,true⟩]
 Xv:fJ E (opsOf (cutAt [1,0] (aA Tryz.f74).code))=.app
 Y8:cH E .app (opsOf (cutAt [1,0] (aA Tryz.f74).code))=some [⟨1,12,false,true⟩,  ⟨3,12,false,true⟩,  ⟨4,12,false,true⟩,  ⟨6,12,false,true⟩,  ⟨7,12,false,true⟩,  ⟨9,12,false,true⟩,  ⟨10,12,false,true⟩]
 Xu:fJ E (opsOf (cutAt [1,1,0,1,2,2,1,0,2,1,0] (aA Tryz.f74).code))=.app
 Y7:cH E .app (opsOf (cutAt [1,1,0,1,2,2,1,0,2,1,0] (aA Tryz.f74).code))=some []
 XC:fJ E (opsOf (cutAt [1,1,0,1,2,2,1,1,0,2,1,0] (aA Tryz.f12).code))=.lit
 Ze:cH E .lit (opsOf (cutAt [1,1,0,1,2,2,1,1,0,2,1,0] (aA Tryz.f12).code))=some [⟨1,2,true,false⟩]
 WT:aM E (cutAt [1,0,1,2,2,1,1,0,2,1,1,1,0,0] (aA Tryz.f119).code)=true
 TJ:aM E (cutAt [1,1,1,1,0,1,2,2,1,1,0,2,1,1,0,1,0,0] (aA Tryz.f119).code)=true
 TI:aM E (cutAt [1,1,1,1,1,0,1,2,2,1,1,0,2,1,1,0,0] (aA Tryz.f119).code)=true
 RB:fJ E (opsOf (cutAt [1,1,1,1,0,1,2,2,1,1,0,2,1,1,1,1] (aA Tryz.f158).code))=.no
 Sk:cH E .no (opsOf (cutAt [1,1,1,1,0,1,2,2,1,1,0,2,1,1,1,1] (aA Tryz.f158).code))=some [⟨2,4,false,true⟩]
 ab9:aM E (cutAt [1,1,0,1,1,0,0] (aA Tryz.f68).code)=true
 WS:aM E (cutAt [1,1,0,1,2,2,1,0,2,0] (aA Tryz.f122).code)=true
 TH:aM E (cutAt [1,1,0,1,2,2,1,0,2,1,0,1,0,1,2,2,1,0,2,0] (aA Tryz.f122).code)=true
def aO:Lay bC:=⟨λr s=>r=[.str s],1,λ_ _ h=>by rw[h];rfl,λ_ _ h c hc=>by rw[h]at hc;cases hc with | head=>rfl | tail _ h=>cases h⟩
def eZ:Lay Step:=⟨λr x=>∃a l,r=[.str x.out,.int .i64 x.op,a,l,.int .i64 x.n]/\IS aO a x.args/\IS aO l x.lits,5,λ_ _ ⟨_,_,h,_⟩=>by rw[h];rfl,λ_ _ ⟨a,l,h,h1,h2⟩ c hc=>by
 rw[h]at hc;simp only[IT,cr,fu]at hc;rcases hc with rfl | rfl | rfl | rfl | rfl
 ·rfl
 ·rfl
 ·exact h1.bD
 ·exact h2.bD
 ·rfl⟩
def dN:Lay aD:=⟨λr x=>∃i o a s,r=[.str x.name,i,o,a,s]/\IS aO i x.ins/\IS aO o x.outs/\IS aO a x.after/\IS eZ s x.steps,5,λ_ _ ⟨_,_,_,_,h,_⟩=>by rw[h];rfl,λ_ _ ⟨i,o,a,s,h,h1,h2,h3,h4⟩ c hc=>by
 rw[h]at hc;simp only[IT,cr,fu]at hc;rcases hc with rfl | rfl | rfl | rfl | rfl
 ·rfl
 ·exact h1.bD
 ·exact h2.bD
 ·exact h3.bD
 ·exact h4.bD⟩
def DY:Lay Bool:=⟨λr b=>r=[.bool b],1,λ_ _ h=>by rw[h];rfl,λ_ _ h c hc=>by rw[h]at hc;cases hc with | head=>rfl | tail _ h=>cases h⟩
def uR:Lay (List Bool):=⟨λr l=>∃v,r=[v]/\IS DY v l,1,λ_ _ ⟨_,h,_⟩=>by rw[h];rfl,λ_ _ ⟨v,h,h1⟩ c hc=>by rw[h]at hc;cases hc with | head=>exact h1.bD | tail _ h=>cases h⟩
section
variable {E:Env}{Z:Sg}{v:V}
theorem fT (h:bE E) {s:bC}{Z:Sg}:lenOf E Z 9 (.str s)=some s.length:=by
 unfold lenOf;rw[h.dG]
theorem IS.at {α:Type}{L:Lay α}{ts t:Nat}{si ei:Ty}{l:List α}(hts:E.ty ts=some si)(hk:si.kd=.sl t)(ht:E.ty t=some ei)(hn:ei.size=L.n)(h:IS L v l) {i:Nat}{x:α}(hx:l[i]?=some x) :
  ∃g r,indexAddr E ts v (.int .i64 (i:Int))=some (.cZ g r)/\L.P r x:=by
 obtain⟨p,r,h1,h2,-,-,⟨g,rfl⟩ | ⟨b,o,rfl,-⟩⟩:=FG (Z:=[]) hts hk ht hn (h.ls [] t) hx
 ·exact⟨g,r,h1,h2⟩
 ·exfalso;rcases h with⟨rfl,rfl⟩ | ⟨g,rs,full,rfl,ha⟩
  ·cases hx
  ·unfold indexAddr at h1
   repeat' (split at h1)
   all_goals first
    |(cases h1;done)
    |contradiction
theorem jZ (h:bE E):eA E #[24,24]=true:=by
 show (match E.ty 24 with
  |some xi=>!AR xi.kd
  |none=>false)=true
 rw[h.a_];rfl
theorem bP (h:bE E) {l} (ia:IS aO v l) (Z:Sg):lenOf E Z 24 v=some l.length:=nD h.a_ rfl (ia.ls Z 9)
theorem Ue (h:bE E) {l} (ia:IS aO v l) {i:Nat} {x}(hx:l[i]?=some x):∃g r,indexAddr E 24 v (.int .i64 (i:Int))=some (.cZ g r)/\(aO).P r x:=IS.at h.a_ rfl h.dG rfl ia hx
theorem kK (h:bE E) {l}(ha:LS aO 9 Z v l):∃v',aU Z E.ty true v=some v'/\IS aO v' l:=B5 h.dG rfl ha
theorem Bn (h:bE E):eA E #[44,44]=true:=by
 show (match E.ty 44 with
  |some xi=>!AR xi.kd
  |none=>false)=true
 rw[h.fS];rfl
theorem lT (h:bE E) {l} (ia:IS eZ v l) (Z:Sg):lenOf E Z 44 v=some l.length:=nD h.fS rfl (ia.ls Z 82)
theorem Re (h:bE E) {l} (ia:IS eZ v l) {i:Nat} {x}(hx:l[i]?=some x):∃g r,indexAddr E 44 v (.int .i64 (i:Int))=some (.cZ g r)/\(eZ).P r x:=IS.at h.fS rfl h.dB rfl ia hx
theorem CE (h:bE E) {l}(ha:LS eZ 82 Z v l):∃v',aU Z E.ty true v=some v'/\IS eZ v' l:=B5 h.dB rfl ha
theorem uV (h:bE E):eA E #[22,22]=true:=by
 show (match E.ty 22 with
  |some xi=>!AR xi.kd
  |none=>false)=true
 rw[h.BN];rfl
theorem dA (h:bE E) {l} (ia:IS dN v l) (Z:Sg):lenOf E Z 22 v=some l.length:=nD h.BN rfl (ia.ls Z 46)
theorem Rf (h:bE E) {l} (ia:IS dN v l) {i:Nat} {x}(hx:l[i]?=some x):∃g r,indexAddr E 22 v (.int .i64 (i:Int))=some (.cZ g r)/\(dN).P r x:=IS.at h.BN rfl h.bM rfl ia hx
theorem fE (h:bE E) {l}(ha:LS dN 46 Z v l):∃v',aU Z E.ty true v=some v'/\IS dN v' l:=B5 h.bM rfl ha
theorem HV (h:bE E):eA E #[105,105]=true:=by
 show (match E.ty 105 with
  |some xi=>!AR xi.kd
  |none=>false)=true
 rw[h.rG];rfl
theorem Rj (h:bE E) {l} (ia:IS DY v l) {i:Nat} {x}(hx:l[i]?=some x):∃g r,indexAddr E 105 v (.int .i64 (i:Int))=some (.cZ g r)/\(DY).P r x:=IS.at h.rG rfl h.Ee rfl ia hx
theorem P4 (h:bE E) {l} (ia:IS uR v l) (Z:Sg):lenOf E Z 68 v=some l.length:=nD h.Ov rfl (ia.ls Z 105)
theorem Mt (h:bE E) {l} (ia:IS uR v l) {i:Nat} {x}(hx:l[i]?=some x):∃g r,indexAddr E 68 v (.int .i64 (i:Int))=some (.cZ g r)/\(uR).P r x:=IS.at h.Ov rfl h.rG rfl ia hx
theorem vE (h:bE E) {g:Bool}{u:V}{r:List V}:loadAt E Z 4 (.cZ g (u::r))=some u:=by
 unfold loadAt;rw[h.Ee];rfl
theorem tD (h:bE E) {g:Bool}{u:V}{r:List V}:loadAt E Z 9 (.cZ g (u::r))=some u:=by
 unfold loadAt;rw[h.dG];rfl
theorem LW (h:bE E) {g:Bool}{u:V}{r:List V}:loadAt E Z 24 (.cZ g (u::r))=some u:=by
 unfold loadAt;rw[h.a_];rfl
theorem UB (h:bE E) {g:Bool}{v0 v1 v2 v3 v4:V}:loadAt E Z 46 (.cZ g [v0,v1,v2,v3,v4])=some (.agg [v0,v1,v2,v3,v4]):=by
 unfold loadAt;rw[h.bM];rfl
theorem jQ (h:bE E) {g:Bool}{u:V}{r:List V}:loadAt E Z 105 (.cZ g (u::r))=some u:=by
 unfold loadAt;rw[h.rG];rfl
theorem lP:Ax.bytes ⟨#[]⟩=[]:=rfl
theorem NJ:Ax.bytes ⟨#[46]⟩=[46]:=rfl
theorem TS:Ax.bytes ⟨#[46,46]⟩=[46,46]:=rfl
theorem DP:Ax.bytes ⟨#[114,117,108,101]⟩=[114,117,108,101]:=rfl
theorem GN:Ax.bytes ⟨#[105,110]⟩=[105,110]:=rfl
theorem Ku:Ax.bytes ⟨#[111,117,116]⟩=[111,117,116]:=rfl
theorem QC:Ax.bytes ⟨#[97,102,116,101,114]⟩=[97,102,116,101,114]:=rfl
theorem gP (h:bE E) {l} (ia:IS aO v l) {i:Nat} {x}(hx:l[i]?=some x):∃g,indexAddr E 24 v (.int .i64 (i:Int))=some (.cZ g [.str x]):=by
 obtain⟨g,r,e,hr⟩:=Ue h ia hx;exact⟨g,by rw[e,show r=[.str x] from hr]⟩
theorem wN (h:bE E) {l} (ia:IS eZ v l) {i:Nat} {x}(hx:l[i]?=some x):∃g a b,indexAddr E 44 v (.int .i64 (i:Int))=some (.cZ g [.str x.out,.int .i64 x.op,a,b,.int .i64 x.n])/\IS aO a x.args/\IS aO b x.lits:=by
 obtain⟨g,r,e,a,b,hr,h1,h2⟩:=Re h ia hx;exact⟨g,a,b,by rw[e,hr],h1,h2⟩
theorem fL (h:bE E) {l} (ia:IS dN v l) {i:Nat} {x}(hx:l[i]?=some x):∃g a b c d,indexAddr E 22 v (.int .i64 (i:Int))=some (.cZ g [.str x.name,a,b,c,d])/\IS aO a x.ins/\IS aO b x.outs/\IS aO c x.after/\IS eZ d x.steps:=by
 obtain⟨g,r,e,a,b,c,d,hr,h1⟩:=Rf h ia hx;exact⟨g,a,b,c,d,by rw[e,hr],h1⟩
theorem dK (Z:Sg) (s:bC):aU Z E.ty true (.str s)=some (.str s):=rfl
theorem pK {α:Type}{L:Lay α}{l:List α} (ia:IS L v l) (Z:Sg):aU Z E.ty true v=some v:=cJ ia.bD (bV ia.bD)
def Jd (v:V) (x:aD):Prop:=∃a b c d,v=.agg [.str x.name,a,b,c,d]/\IS aO a x.ins/\IS aO b x.outs/\IS aO c x.after/\IS eZ d x.steps
def Ob (v:V) (x:Step):Prop:=∃a b,v=.agg [.str x.out,.int .i64 x.op,a,b,.int .i64 x.n]/\IS aO a x.args/\IS aO b x.lits
theorem HB {cs:List V}(hc:∀c∈cs,Ax.bD c=true) (Z:Sg):aU Z E.ty true (.agg cs)=some (.agg cs):=by
 have e:aX (aU.one Z E.ty true) cs=some cs:=f_ λc hx=>by
  have:=cJ (Z:=Z) (ty:=E.ty) (g:=true) (hc c hx) (bV (hc c hx));have h2:=hc c hx;cases c <;> first | exact this | cases h2
 show (match aX (aU.one Z E.ty true) cs with
  |some l=>some (V.agg l)
  |none=>none)=_
 rw[e]
theorem Jd.snap {x:aD}(h:Jd v x) (Z:Sg):aU Z E.ty true v=some v:=by
 obtain⟨a,b,c,d,rfl,h1,h2,h3,h4⟩:=h;refine HB (λy hy=>?_) Z;simp only[IT,cr,fu]at hy;rcases hy with rfl | rfl | rfl | rfl | rfl
 ·rfl
 ·exact h1.bD
 ·exact h2.bD
 ·exact h3.bD
 ·exact h4.bD
theorem Ob.snap {x:Step}(h:Ob v x) (Z:Sg):aU Z E.ty true v=some v:=by
 obtain⟨a,b,rfl,h1,h2⟩:=h;refine HB (λy hy=>?_) Z;simp only[IT,cr,fu]at hy;rcases hy with rfl | rfl | rfl | rfl | rfl
 ·rfl
 ·rfl
 ·exact h1.bD
 ·exact h2.bD
 ·rfl
theorem iM {a b:bC} (e:a=b):Ax.seq a b=true:=by rw[yT];exact BY e
theorem gL {a b:bC} (e:a≠b):Ax.seq a b=false:=by rw[yT];exact AS e
theorem dP {i n:Nat}(h:i<n):decide ((i:Int)<(n:Int))=true:=BY (by omega)
theorem dZ {i n:Nat}(h:¬ i<n):decide ((i:Int)<(n:Int))=false:=AS (by omega)
theorem bW (i:Nat)(h:i<9223372036854775807):wr .i64 ((i:Int)+1)=((i+1:Nat):Int):=by
 rw[Al,az]
 ·exact (Int.natCast_succ i).symm
 ·have h1:lo .i64 = -9223372036854775808:=rfl;have h2:hi .i64=9223372036854775807:=rfl;rw[h1,h2,ai,aa,aa];omega
structure Small (x:aD):Prop where
 ins:x.ins.length<=10
 outs:x.outs.length<=6
 after:x.after.length<=10
 steps:x.steps.length<=14
 args:∀s∈x.steps,s.args.length<=8
 lits:∀s∈x.steps,s.lits.length<=3
structure Mid (x:aD):Prop where
 ins:x.ins.length<=10
 outs:x.outs.length<=6
 after:x.after.length<=10
 steps:x.steps.length<=14
 args:∀s∈x.steps,s.args.length<=8796093022208
 lits:∀s∈x.steps,s.lits.length<=8796093022208
theorem Small.mid {x:aD}(h:Small x):Mid x:=⟨h.ins,h.outs,h.after,h.steps,λs hs=>by have:=h.args s hs;omega,λs hs=>by have:=h.lits s hs;omega⟩
def idx:Option Nat->Int
 |some i=>i
 |none=>-1
theorem fV {α:Type}{p:α->Bool}:∀{l:List α},(∀x∈l,p x=false)->bQ p l=none
 | [],_=>rfl
 |x::l,h=>by rw[bQ,h x (IN ..),fV λy hy=>h y (ae _ hy)];rfl
theorem fU {α:Type}{p:α->Bool}:∀{l:List α}{i:Nat}{x:α},(∀j y,j<i->l[j]?=some y->p y=false)->l[i]?=some x->p x=true->bQ p l=some i
 | [],i,x,_,hx,_=>by cases hx
 |y::l,0,x,_,hx,hp=>by cases hx;rw[bQ,az hp]
 |y::l,i+1,x,h,hx,hp=>by
  rw[bQ,an (by rw[h 0 y (by omega) rfl];simp),fU (i:=i) (x:=x) (λj z hj hz=>h (j+1) z (by omega) hz) hx hp];rfl
theorem A_ {α:Type}{p:α->Bool}{l:List α}(h:∀j y,j<l.length->l[j]?=some y->p y=true):l.all p=true:=by
 rw[ez];intro x hx;obtain⟨i,hi,e⟩:=fm hx;exact h i x hi (by rw[AT hi,e])
theorem iC {α:Type}{p:α->Bool}{l:List α}{i:Nat}{x:α}(hx:l[i]?=some x)(hp:p x=false):l.all p=false:=by
 rw[List.all_eq_false];exact⟨x,ag hx,by simp[hp]⟩
end
end
section
section
variable {E:Env}{Z:Sg}{K:V->Sg->Prop}
theorem Xe (h:bE E) {a:V}{l:List bC}{s:bC}(ha:LS aO 9 Z a l)(hsm:l.length<=4294967296):aB E 100 [a,.str s] Z K=K (.int .i64 (idx (bQ (λx=>decide (x=s)) l))) Z:=by
 refine aB.of ?_;obtain⟨a',ea,ia⟩:=kK h ha;rw[aI h.aaZ h.Yy h.abR h.Z3 (args':=[a',.str s]) (by simp only[aX,ea,dK]),aW (by kernel_rfl)];simp only[aA,Tryz.f100,KP,↓reduceIte,reduceLT,reduceAdd,reduceNeg];have la:=bP h ia;refine aV (λi F Y=>Y=[]/\F.get 0=a'/\F.get 1=.str s/\F.get 5=.int .i64 (i:Int)/\∀j y,j<i->l[j]?=some y->y≠s) l.length ?_ ?_ l.length 0 _ _ (by omega) ⟨rfl,(iU (by simp +decide only[GS,aj]) (λj y hj=>by omega))⟩
 ·rintro i F Y hi ⟨rfl,g0,g1,g5,hp⟩ next
  obtain⟨x,hx⟩:∃x,l[i]?=some x:=⟨_,AT hi⟩;obtain⟨g,e1⟩:=gP h ia hx;have hlt:=dP hi;have hadd:=bW i (by omega);rw[aG];by_cases hxs:x=s
  ·have hs:=iM hxs;simp only[KP,Ax.loadAt,↓reduceIte,reduceEqDiff,reduceLT,reduceCtorEq,reduceNeg,h.dG,g0,g1,g5,la,hlt,e1,hs];rw[fU (i:=i) (x:=x) (λj y hj hy=>AS (hp j y hj hy)) hx (BY hxs)];exact rfl
  ·have hs:=gL hxs;simp only[KP,Ax.loadAt,↓reduceIte,reduceEqDiff,reduceLT,reduceCtorEq,reduceNeg,h.dG,g0,g1,g5,la,hlt,e1,hs,hadd];refine next _ _ ⟨rfl,(iU (by simp +decide only[GS,g0,g1,aj]) (λj y hj hy=>?_))⟩
   rcases cj j i with g | g
   ·exact hp j y g hy
   ·obtain rfl:j=i:=by omega
    rw[hx]at hy;cases hy;exact hxs
 ·rintro F Y ⟨rfl,g0,g1,g5,hp⟩;have hlt:=dZ (bl l.length);rw[aG];simp only[KP,↓reduceIte,reduceEqDiff,reduceLT,reduceCtorEq,reduceNeg,g0,g5,la,hlt]
  rw[fV λx hx=>by
   obtain⟨j,hj,e⟩:=fm hx;exact AS (hp j x hj (by rw[AT hj,e]))]
  exact rfl
theorem tE (h:bE E) {a:V}{l:List bC}{s:bC}(ha:LS aO 9 Z a l)(hsm:l.length<=4294967296):KC E 100 [a,.str s] Z ((.int .i64 (idx (bQ (λx=>decide (x=s)) l)))) Z:=dD λ_=>Xe h ha hsm
theorem b_At (h:bE E) {a:V}{l:List aD}{s:bC}(ha:LS dN 46 Z a l)(hsm:l.length<=4294967296):aB E 56 [a,.str s] Z K=K (.int .i64 (idx (gE l s))) Z:=by
 refine aB.of ?_;obtain⟨a',ea,ia⟩:=fE h ha;rw[aI h.hs56 h.sp56 h.fn56 h.md56 (args':=[a',.str s]) (by simp only[aX,ea,dK]),aW (by kernel_rfl)];simp only[aA,Tryz.f56,KP,↓reduceIte,reduceLT,reduceAdd,reduceNeg];have la:=dA h ia;refine aV (λi F Y=>Y=[]/\F.get 0=a'/\F.get 1=.str s/\F.get 5=.int .i64 (i:Int)/\∀j y,j<i->l[j]?=some y->y.name≠s) l.length ?_ ?_ l.length 0 _ _ (by omega) ⟨rfl,(iU (by simp +decide only[GS,aj]) (λj y hj=>by omega))⟩
 ·rintro i F Y hi ⟨rfl,g0,g1,g5,hp⟩ next
  obtain⟨x,hx⟩:∃x,l[i]?=some x:=⟨_,AT hi⟩;obtain⟨g,a1,a2,a3,a4,e1,-⟩:=fL h ia hx;have hlt:=dP hi;have hadd:=bW i (by omega);rw[aG];by_cases hxs:x.name=s
  ·have hs:=iM hxs;simp only[KP,Ax.loadAt,↓reduceIte,reduceEqDiff,reduceLT,reduceCtorEq,reduceNeg,h.dG,h.bM,g0,g1,g5,la,hlt,e1,hs];rw[show gE l s=some i from fU (i:=i) (x:=x) (λj y hj hy=>AS (hp j y hj hy)) hx (BY hxs)];exact rfl
  ·have hs:=gL hxs;simp only[KP,Ax.loadAt,↓reduceIte,reduceEqDiff,reduceLT,reduceCtorEq,reduceNeg,h.dG,h.bM,g0,g1,g5,la,hlt,e1,hs,hadd];refine next _ _ ⟨rfl,(iU (by simp +decide only[GS,g0,g1,aj]) (λj y hj hy=>?_))⟩
   rcases cj j i with g | g
   ·exact hp j y g hy
   ·obtain rfl:j=i:=by omega
    rw[hx]at hy;cases hy;exact hxs
 ·rintro F Y ⟨rfl,g0,g1,g5,hp⟩;have hlt:=dZ (bl l.length);rw[aG];simp only[KP,↓reduceIte,reduceEqDiff,reduceLT,reduceCtorEq,reduceNeg,g0,g5,la,hlt]
  rw[show gE l s=none from fV λx hx=>by
   obtain⟨j,hj,e⟩:=fm hx;exact AS (hp j x hj (by rw[AT hj,e]))]
  exact rfl
theorem Wq (h:bE E) {a:V}{l:List aD}{s:bC}(ha:LS dN 46 Z a l)(hsm:l.length<=4294967296):KC E 56 [a,.str s] Z ((.int .i64 (idx (gE l s)))) Z:=dD λ_=>b_At h ha hsm
theorem kW {o:Option Nat}:decide ((0:Int)<=idx o)=o.isSome:=by
 cases o with
 |none=>rfl
 |some i=>exact BY (by simp only[idx];omega)
theorem Dv {o:Option Nat}:decide (idx o<(0:Int))=o.isNone:=by
 cases o with
 |none=>rfl
 |some i=>exact AS (by simp only[idx];omega)
theorem cF {α:Type}{p:α->Bool}:∀{l:List α},(bQ p l).isSome=l.any p
 | []=>rfl
 |x::l=>by
  rw[bQ,List.any_cons];by_cases hx:p x=true
  ·rw[az hx,hx];rfl
  ·rw[an hx,Option.isSome_map,cF];simp[hx]
theorem any_eq {l:List bC}{s:bC}:(l.any λx=>decide (x=s))=decide (s∈l):=by
 rw[e8,fg,aa];constructor
 ·rintro⟨x,hx,e⟩;rw[aa]at e;subst e;exact hx
 ·intro hx;exact⟨s,hx,by simp⟩
theorem T_ (h:bE E) {a:V}{l:List aD}{s:bC}(ha:LS dN 46 Z a l)(ho:∀x∈l,x.outs.length<=4294967296)(hsm:l.length<=4294967296):aB E 54 [a,.str s] Z K=K (.int .i64 (idx (fI l s))) Z:=by
 refine aB.of ?_;obtain⟨a',ea,ia⟩:=fE h ha;rw[aI h.hs54 h.sp54 h.fn54 h.md54 (args':=[a',.str s]) (by simp only[aX,ea,dK]),aW (by kernel_rfl)];simp only[aA,Tryz.f54,KP,↓reduceIte,reduceLT,reduceAdd,reduceNeg];have la:=dA h ia;refine aV (λi F Y=>Y=[]/\F.get 0=a'/\F.get 1=.str s/\F.get 5=.int .i64 (i:Int)/\∀j y,j<i->l[j]?=some y->s ∉ y.outs) l.length ?_ ?_ l.length 0 _ _ (by omega) ⟨rfl,(iU (by simp +decide only[GS,aj]) (λj y hj=>by omega))⟩
 ·rintro i F Y hi ⟨rfl,g0,g1,g5,hp⟩ next
  obtain⟨x,hx⟩:∃x,l[i]?=some x:=⟨_,AT hi⟩;obtain⟨g,a1,a2,a3,a4,e1,-,h2,-⟩:=fL h ia hx;have kf:=λ(Y:Sg)=>tE (Z:=Y) h (s:=s) (h2.ls Y 9) (ho x (ag hx));have hlt:=dP hi;have hadd:=bW i (by omega);rw[aG];by_cases hxs:s∈x.outs
  ·have hs:(bQ (λy=>decide (y=s)) x.outs).isSome=true:=by rw[cF,any_eq];exact BY hxs
   simp only[KP,Ax.loadAt,↓reduceIte,reduceEqDiff,reduceLT,reduceCtorEq,reduceNeg,h.a_,h.bM,g0,g1,g5,la,hlt,e1,kf,kW,hs];rw[show fI l s=some i from fU (i:=i) (x:=x) (λj y hj hy=>AS (hp j y hj hy)) hx (BY hxs)];exact rfl
  ·have hs:(bQ (λy=>decide (y=s)) x.outs).isSome=false:=by rw[cF,any_eq];exact AS hxs
   simp only[KP,Ax.loadAt,↓reduceIte,reduceEqDiff,reduceLT,reduceCtorEq,reduceNeg,h.a_,h.bM,g0,g1,g5,la,hlt,e1,kf,kW,hs,hadd];refine next _ _ ⟨rfl,(iU (by simp +decide only[GS,g0,g1,aj]) (λj y hj hy=>?_))⟩
   rcases cj j i with g | g
   ·exact hp j y g hy
   ·obtain rfl:j=i:=by omega
    rw[hx]at hy;cases hy;exact hxs
 ·rintro F Y ⟨rfl,g0,g1,g5,hp⟩;have hlt:=dZ (bl l.length);rw[aG];simp only[KP,↓reduceIte,reduceEqDiff,reduceLT,reduceCtorEq,reduceNeg,g0,g5,la,hlt]
  rw[show fI l s=none from fV λx hx=>by
   obtain⟨j,hj,e⟩:=fm hx;exact AS (hp j x hj (by rw[AT hj,e]))]
  exact rfl
theorem L5 (h:bE E) {a:V}{l:List aD}{s:bC}(ha:LS dN 46 Z a l)(ho:∀x∈l,x.outs.length<=4294967296)(hsm:l.length<=4294967296):KC E 54 [a,.str s] Z ((.int .i64 (idx (fI l s)))) Z:=dD λ_=>T_ h ha ho hsm
end
end
section
section
variable {E:Env}{Z:Sg}{K:V->Sg->Prop}
theorem W7 (h:bE E) {c:Nat}:aB E 197 [.int .u8 (c:Int)] Z K=K (.bool (sign c)) Z:=by
 refine aB.of ?_;rw[aI h.aau h.X4 h.abm h.ZA (args':=[.int .u8 (c:Int)]) (by simp only[aX,show aU Z E.ty true (.int .u8 (c:Int))=some (.int .u8 (c:Int)) from rfl]),aW (by kernel_rfl)];have hcut:(0<=c/\c<=44)\/(45<=c/\c<=45)\/(46<=c/\c<=46)\/(47<=c/\c<=47)\/(48<=c/\c<=57)\/(58<=c/\c<=64)\/(65<=c/\c<=90)\/(91<=c/\c<=94)\/(95<=c/\c<=95)\/(96<=c/\c<=96)\/(97<=c/\c<=122)\/(123<=c/\123<=c):=by omega
 rcases hcut with⟨h1,h2⟩ | ⟨h1,h2⟩ | ⟨h1,h2⟩ | ⟨h1,h2⟩ | ⟨h1,h2⟩ | ⟨h1,h2⟩ | ⟨h1,h2⟩ | ⟨h1,h2⟩ | ⟨h1,h2⟩ | ⟨h1,h2⟩ | ⟨h1,h2⟩ | ⟨h1,h2⟩
 ·rw[show sign c=false from by unfold sign;simp;omega];have q0:decide ((97:Int)<=(c:Int))=false:=AS (by omega);have q2:decide ((65:Int)<=(c:Int))=false:=AS (by omega);have q4:decide ((48:Int)<=(c:Int))=false:=AS (by omega);have q6:decide ((c:Int)=46)=false:=AS (by omega);have q7:decide ((c:Int)=95)=false:=AS (by omega);have q8:decide ((c:Int)=45)=false:=AS (by omega);simp only[aA,Tryz.f197,KP,↓reduceIte,reduceEqDiff,reduceLT,reduceCtorEq,q0,q2,q4,q6,q7,q8];exact rfl
 ·rw[show sign c=true from by unfold sign;simp;omega];have q0:decide ((97:Int)<=(c:Int))=false:=AS (by omega);have q2:decide ((65:Int)<=(c:Int))=false:=AS (by omega);have q4:decide ((48:Int)<=(c:Int))=false:=AS (by omega);have q6:decide ((c:Int)=46)=false:=AS (by omega);have q7:decide ((c:Int)=95)=false:=AS (by omega);have q8:decide ((c:Int)=45)=true:=BY (by omega);simp only[aA,Tryz.f197,KP,↓reduceIte,reduceEqDiff,reduceLT,reduceCtorEq,q0,q2,q4,q6,q7,q8];exact rfl
 ·rw[show sign c=true from by unfold sign;simp;omega];have q0:decide ((97:Int)<=(c:Int))=false:=AS (by omega);have q2:decide ((65:Int)<=(c:Int))=false:=AS (by omega);have q4:decide ((48:Int)<=(c:Int))=false:=AS (by omega);have q6:decide ((c:Int)=46)=true:=BY (by omega);simp only[aA,Tryz.f197,KP,↓reduceIte,reduceEqDiff,reduceLT,reduceCtorEq,q0,q2,q4,q6];exact rfl
 ·rw[show sign c=false from by unfold sign;simp;omega];have q0:decide ((97:Int)<=(c:Int))=false:=AS (by omega);have q2:decide ((65:Int)<=(c:Int))=false:=AS (by omega);have q4:decide ((48:Int)<=(c:Int))=false:=AS (by omega);have q6:decide ((c:Int)=46)=false:=AS (by omega);have q7:decide ((c:Int)=95)=false:=AS (by omega);have q8:decide ((c:Int)=45)=false:=AS (by omega);simp only[aA,Tryz.f197,KP,↓reduceIte,reduceEqDiff,reduceLT,reduceCtorEq,q0,q2,q4,q6,q7,q8];exact rfl
 ·rw[show sign c=true from by unfold sign;simp;omega];have q0:decide ((97:Int)<=(c:Int))=false:=AS (by omega);have q2:decide ((65:Int)<=(c:Int))=false:=AS (by omega);have q4:decide ((48:Int)<=(c:Int))=true:=BY (by omega);have q5:decide ((c:Int)<=57)=true:=BY (by omega);simp only[aA,Tryz.f197,KP,↓reduceIte,reduceEqDiff,reduceLT,reduceCtorEq,q0,q2,q4,q5];exact rfl
 ·rw[show sign c=false from by unfold sign;simp;omega];have q0:decide ((97:Int)<=(c:Int))=false:=AS (by omega);have q2:decide ((65:Int)<=(c:Int))=false:=AS (by omega);have q4:decide ((48:Int)<=(c:Int))=true:=BY (by omega);have q5:decide ((c:Int)<=57)=false:=AS (by omega);have q6:decide ((c:Int)=46)=false:=AS (by omega);have q7:decide ((c:Int)=95)=false:=AS (by omega);have q8:decide ((c:Int)=45)=false:=AS (by omega);simp only[aA,Tryz.f197,KP,↓reduceIte,reduceEqDiff,reduceLT,reduceCtorEq,q0,q2,q4,q5,q6,q7,q8];exact rfl
 ·rw[show sign c=true from by unfold sign;simp;omega];have q0:decide ((97:Int)<=(c:Int))=false:=AS (by omega);have q2:decide ((65:Int)<=(c:Int))=true:=BY (by omega);have q3:decide ((c:Int)<=90)=true:=BY (by omega);simp only[aA,Tryz.f197,KP,↓reduceIte,reduceEqDiff,reduceLT,reduceCtorEq,q0,q2,q3];exact rfl
 ·rw[show sign c=false from by unfold sign;simp;omega];have q0:decide ((97:Int)<=(c:Int))=false:=AS (by omega);have q2:decide ((65:Int)<=(c:Int))=true:=BY (by omega);have q3:decide ((c:Int)<=90)=false:=AS (by omega);have q4:decide ((48:Int)<=(c:Int))=true:=BY (by omega);have q5:decide ((c:Int)<=57)=false:=AS (by omega);have q6:decide ((c:Int)=46)=false:=AS (by omega);have q7:decide ((c:Int)=95)=false:=AS (by omega);have q8:decide ((c:Int)=45)=false:=AS (by omega);simp only[aA,Tryz.f197,KP,↓reduceIte,reduceEqDiff,reduceLT,reduceCtorEq,q0,q2,q3,q4,q5,q6,q7,q8];exact rfl
 ·rw[show sign c=true from by unfold sign;simp;omega];have q0:decide ((97:Int)<=(c:Int))=false:=AS (by omega);have q2:decide ((65:Int)<=(c:Int))=true:=BY (by omega);have q3:decide ((c:Int)<=90)=false:=AS (by omega);have q4:decide ((48:Int)<=(c:Int))=true:=BY (by omega);have q5:decide ((c:Int)<=57)=false:=AS (by omega);have q6:decide ((c:Int)=46)=false:=AS (by omega);have q7:decide ((c:Int)=95)=true:=BY (by omega);simp only[aA,Tryz.f197,KP,↓reduceIte,reduceEqDiff,reduceLT,reduceCtorEq,q0,q2,q3,q4,q5,q6,q7];exact rfl
 ·rw[show sign c=false from by unfold sign;simp;omega];have q0:decide ((97:Int)<=(c:Int))=false:=AS (by omega);have q2:decide ((65:Int)<=(c:Int))=true:=BY (by omega);have q3:decide ((c:Int)<=90)=false:=AS (by omega);have q4:decide ((48:Int)<=(c:Int))=true:=BY (by omega);have q5:decide ((c:Int)<=57)=false:=AS (by omega);have q6:decide ((c:Int)=46)=false:=AS (by omega);have q7:decide ((c:Int)=95)=false:=AS (by omega);have q8:decide ((c:Int)=45)=false:=AS (by omega);simp only[aA,Tryz.f197,KP,↓reduceIte,reduceEqDiff,reduceLT,reduceCtorEq,q0,q2,q3,q4,q5,q6,q7,q8];exact rfl
 ·rw[show sign c=true from by unfold sign;simp;omega];have q0:decide ((97:Int)<=(c:Int))=true:=BY (by omega);have q1:decide ((c:Int)<=122)=true:=BY (by omega);simp only[aA,Tryz.f197,KP,↓reduceIte,reduceEqDiff,reduceLT,reduceCtorEq,q0,q1];exact rfl
 ·rw[show sign c=false from by unfold sign;simp;omega];have q0:decide ((97:Int)<=(c:Int))=true:=BY (by omega);have q1:decide ((c:Int)<=122)=false:=AS (by omega);have q2:decide ((65:Int)<=(c:Int))=true:=BY (by omega);have q3:decide ((c:Int)<=90)=false:=AS (by omega);have q4:decide ((48:Int)<=(c:Int))=true:=BY (by omega);have q5:decide ((c:Int)<=57)=false:=AS (by omega);have q6:decide ((c:Int)=46)=false:=AS (by omega);have q7:decide ((c:Int)=95)=false:=AS (by omega);have q8:decide ((c:Int)=45)=false:=AS (by omega);simp only[aA,Tryz.f197,KP,↓reduceIte,reduceEqDiff,reduceLT,reduceCtorEq,q0,q1,q2,q3,q4,q5,q6,q7,q8];exact rfl
theorem Wn (h:bE E) {c:Nat}:KC E 197 [.int .u8 (c:Int)] Z (.bool (sign c)) Z:=dD λ_=>W7 h
theorem xL (h:bE E) {v:V}{l:List bC} (ia:IS aO v l) {b:Nat}(hb:b<=l.length):∃w,(∀Z,Ax.slice E Z 24 v none (some (.int .i64 (b:Int))) none=some w)/\IS aO w (l.take b):=by
 obtain⟨w,h1,h2,-⟩:=yO (lo:=none) (hi:=some (.int .i64 (b:Int))) (a:=0) (b:=b) h.a_ rfl h.dG rfl ia (.inr rfl) (.inl ⟨rfl,rfl⟩) (ij _) hb;exact⟨w,h1,by simpa using h2⟩
theorem Cs:∀{l:List bC}{i:Nat}{x:bC},l[i]?=some x->x∈l.take i->k_ l=true
 | [],i,x,hx,_=>by cases hx
 |y::l,0,x,_,h=>by simp at h
 |y::l,i+1,x,hx,h=>by
  have hx':l[i]?=some x:=hx;rw[take_succ_cons,IT]at h;rw[k_];rcases h with h | h
  ·rw[BY (h ▸ ag hx')];rfl
  ·rw[Cs hx' h];simp
theorem Ao:∀{l:List bC},(∀(i:Nat) (x:bC),l[i]?=some x->x ∉ l.take i)->k_ l=false
 | [],_=>rfl
 |y::l,h=>by
  rw[k_,Ao λi x hx hm=>h (i+1) x hx (by rw[take_succ_cons];exact ae _ hm)];rw[Bool.or_false];refine AS λhy=>?_;obtain⟨i,hi,e⟩:=fm hy;exact h (i+1) y (by rw[ck,AT hi,e]) (by rw[take_succ_cons];exact IN ..)
theorem TY (h:bE E) {a:V}{l:List bC}(ha:LS aO 9 Z a l)(hsm:l.length<=4294967296):aB E 138 [a] Z K=K (.bool (k_ l)) Z:=by
 refine aB.of ?_;obtain⟨a',ea,ia⟩:=kK h ha;rw[aI h.aaJ h.Yi h.abA h.ZN (args':=[a']) (by simp only[aX,ea]),aW (by kernel_rfl)];simp only[aA,Tryz.f138,KP,↓reduceIte,reduceLT];have la:=bP h ia;have d4:=h.WQ;simp only[aA,Tryz.f138,cutAt,aq]at d4;refine aV (λi F Y=>Y=[]/\F.get 0=a'/\F.get 3=.int .i64 (i:Int)/\∀j y,j<i->l[j]?=some y->y ∉ l.take j) l.length ?_ ?_ l.length 0 _ _ (by omega) ⟨rfl,(lX (by simp +decide only[GS,aj]) (λj y hj=>by omega))⟩
 ·rintro i F Y hi ⟨rfl,g0,g3,hp⟩ next
  obtain⟨x,hx⟩:∃x,l[i]?=some x:=⟨_,AT hi⟩;obtain⟨g,e1⟩:=gP h ia hx;obtain⟨w,e2,iw⟩:=xL h ia (Nat.le_of_lt hi);have hlt:=dP hi;have hadd:=bW i (by omega);have kf:=λ(Y:Sg)=>tE (Z:=Y) h (s:=x) (iw.ls Y 9) (by rw[bw];omega);rw[aG];by_cases hm:x∈l.take i
  ·have hs:(bQ (λy=>decide (y=x)) (l.take i)).isSome=true:=by rw[cF,any_eq];exact BY hm
   simp only[KP,Ax.loadAt,↓reduceIte,reduceEqDiff,reduceLT,reduceCtorEq,h.dG,g0,g3,la,hlt,aT d4,bK,e1,e2,kf,kW,hs];rw[Cs hx hm];exact rfl
  ·have hs:(bQ (λy=>decide (y=x)) (l.take i)).isSome=false:=by rw[cF,any_eq];exact AS hm
   simp only[KP,Ax.loadAt,↓reduceIte,reduceEqDiff,reduceLT,reduceCtorEq,h.dG,g0,g3,la,hlt,aT d4,bK,e1,e2,kf,kW,hs,hadd];refine next _ _ ⟨rfl,(lX (by simp +decide only[GS,g0,aj]) (λj y hj hy=>?_))⟩
   rcases cj j i with g | g
   ·exact hp j y g hy
   ·obtain rfl:j=i:=by omega
    rw[hx]at hy;cases hy;exact hm
 ·rintro F Y ⟨rfl,g0,g3,hp⟩;have hlt:=dZ (bl l.length);rw[aG];simp only[KP,↓reduceIte,reduceEqDiff,reduceLT,reduceCtorEq,g0,g3,la,hlt];rw[Ao λi x hx=>hp i x (AI.1 hx).1 hx];exact rfl
theorem GC (h:bE E) {a:V}{l:List bC}(ha:LS aO 9 Z a l)(hsm:l.length<=4294967296):KC E 138 [a] Z (.bool (k_ l)) Z:=dD λ_=>TY h ha hsm
end
end
section
section
variable {E:Env}{Z:Sg}{K:V->Sg->Prop}
theorem min2 (k:IntKind) (a b:Int):gF false k a [.int k b]=some (if b<a then b else a):=rfl
def lE (x:Step) (A B:Int):Bool:=decide ((x.args.length:Int)=A)&&(decide ((x.lits.length:Int)=B)&&((!decide (x.op=8)||decide (x.lits.head?≠some []))&&(decide (0<=x.n)&&(decide (x.n<=2000)&&(decide (x.op=9)||decide (x.n=0))))))
theorem VZ (h:bE E) {x:Step}{a b:V} (ia:IS aO a x.args) (ib:IS aO b x.lits) {A B:Int}(h8:x.op=8->(x.lits.length:Int)=B->x.lits≠[]) (F:FT) (g1:F.get 1=.ref 0 0) (g3:F.get 3=.int .i64 A) (g4:F.get 4=.int .i64 B)(hk:K (.bool (lE x A B)) [.cells 82 [.str x.out,.int .i64 x.op,a,b,.int .i64 x.n] true]) :
  R E (cutAt [1,1,1,1] (aA Tryz.f172).code) [] ⟨85,F⟩ [.cells 82 [.str x.out,.int .i64 x.op,a,b,.int .i64 x.n] true] (nL E (aA Tryz.f172).results K):=by
 have la:=bP h ia;have lb:=bP h ib;unfold lE at hk;by_cases p1:(x.args.length:Int)=A
 case neg=>
  have q1:decide ((x.args.length:Int)=A)=false:=AS p1;rw[q1]at hk;simp only[aA,Tryz.f172,KP,Ax.loadAt,↓reduceIte,reduceEqDiff,reduceLT,reduceCtorEq,h.a_,h.dB,cutAt,g1,g3,la,q1];exact hk
 have q1:decide ((x.args.length:Int)=A)=true:=BY p1;by_cases p2:(x.lits.length:Int)=B
 case neg=>
  have q2:decide ((x.lits.length:Int)=B)=false:=AS p2;rw[q1,q2]at hk;simp only[aA,Tryz.f172,KP,Ax.loadAt,↓reduceIte,reduceEqDiff,reduceLT,reduceCtorEq,h.a_,h.dB,cutAt,g1,g3,g4,la,lb,q1,q2];exact hk
 have q2:decide ((x.lits.length:Int)=B)=true:=BY p2
 have rest:∀(q3:(!decide (x.op=8)||decide (x.lits.head?≠some []))=true) (e:x.op=8->∃g y,indexAddr E 24 b (.int .i64 0)=some (.cZ g [.str y])/\Ax.seq y []=false),R E (cutAt [1,1,1,1] (aA Tryz.f172).code) [] ⟨85,F⟩ [.cells 82 [.str x.out,.int .i64 x.op,a,b,.int .i64 x.n] true] (nL E (aA Tryz.f172).results K):=by
  intro q3 e;rw[q1,q2,q3]at hk
  have tail:∀(c8:Bool),decide (x.op=8)=c8->(c8=true->∃g y,indexAddr E 24 b (.int .i64 0)=some (.cZ g [.str y])/\Ax.seq y []=false)->R E (cutAt [1,1,1,1] (aA Tryz.f172).code) [] ⟨85,F⟩ [.cells 82 [.str x.out,.int .i64 x.op,a,b,.int .i64 x.n] true] (nL E (aA Tryz.f172).results K):=by
   intro c8 hc8 e;by_cases p4:0<=x.n
   case neg=>
    have q4:decide (0<=x.n)=false:=AS p4;rw[q4]at hk;cases c8 with
    |false=>
     simp only[aA,Tryz.f172,KP,Ax.loadAt,↓reduceIte,reduceEqDiff,reduceLT,reduceCtorEq,h.mB,h.a_,h.dB,cutAt,g1,g3,g4,la,lb,q1,q2,hc8,q4];exact hk
    |true=>
     obtain⟨g,y,e1,e2⟩:=e rfl;simp only[aA,Tryz.f172,KP,Ax.loadAt,↓reduceIte,reduceEqDiff,reduceLT,reduceCtorEq,h.mB,h.dG,h.a_,h.dB,lP,cutAt,g1,g3,g4,la,lb,q1,q2,hc8,q4,e1,e2];exact hk
   have q4:decide (0<=x.n)=true:=BY p4;by_cases p5:x.n<=2000
   case neg=>
    have q5:decide (x.n<=2000)=false:=AS p5;rw[q4,q5]at hk;cases c8 with
    |false=>
     simp only[aA,Tryz.f172,KP,Ax.loadAt,↓reduceIte,reduceEqDiff,reduceLT,reduceCtorEq,h.mB,h.a_,h.dB,cutAt,g1,g3,g4,la,lb,q1,q2,hc8,q4,q5];exact hk
    |true=>
     obtain⟨g,y,e1,e2⟩:=e rfl;simp only[aA,Tryz.f172,KP,Ax.loadAt,↓reduceIte,reduceEqDiff,reduceLT,reduceCtorEq,h.mB,h.dG,h.a_,h.dB,lP,cutAt,g1,g3,g4,la,lb,q1,q2,hc8,q4,q5,e1,e2];exact hk
   have q5:decide (x.n<=2000)=true:=BY p5;rw[q4,q5]at hk;by_cases p9:x.op=9
   ·have q9:decide (x.op=9)=true:=BY p9;have q8:decide (x.op=8)=false:=AS (by omega);rw[q9]at hk;simp only[aA,Tryz.f172,KP,Ax.loadAt,↓reduceIte,reduceEqDiff,reduceLT,reduceCtorEq,h.mB,h.a_,h.dB,cutAt,g1,g3,g4,la,lb,q1,q2,q8,q4,q5,q9];exact hk
   ·have q9:decide (x.op=9)=false:=AS p9;by_cases p0:x.n=0
    ·have q0:decide (x.n=0)=true:=BY p0;rw[q9,q0]at hk;cases c8 with
     |false=>
      simp only[aA,Tryz.f172,KP,Ax.loadAt,↓reduceIte,reduceEqDiff,reduceLT,reduceCtorEq,h.mB,h.a_,h.dB,cutAt,g1,g3,g4,la,lb,q1,q2,hc8,q4,q5,q9,q0];exact hk
     |true=>
      obtain⟨g,y,e1,e2⟩:=e rfl;simp only[aA,Tryz.f172,KP,Ax.loadAt,↓reduceIte,reduceEqDiff,reduceLT,reduceCtorEq,h.mB,h.dG,h.a_,h.dB,lP,cutAt,g1,g3,g4,la,lb,q1,q2,hc8,q4,q5,q9,q0,e1,e2];exact hk
    ·have q0:decide (x.n=0)=false:=AS p0;rw[q9,q0]at hk;cases c8 with
     |false=>
      simp only[aA,Tryz.f172,KP,Ax.loadAt,↓reduceIte,reduceEqDiff,reduceLT,reduceCtorEq,h.mB,h.a_,h.dB,cutAt,g1,g3,g4,la,lb,q1,q2,hc8,q4,q5,q9,q0];exact hk
     |true=>
      obtain⟨g,y,e1,e2⟩:=e rfl;simp only[aA,Tryz.f172,KP,Ax.loadAt,↓reduceIte,reduceEqDiff,reduceLT,reduceCtorEq,h.mB,h.dG,h.a_,h.dB,lP,cutAt,g1,g3,g4,la,lb,q1,q2,hc8,q4,q5,q9,q0,e1,e2];exact hk
  exact tail _ rfl λhc=>e (ej hc)
 by_cases p8:x.op=8
 ·have hne:=h8 p8 p2;obtain⟨y,r,hyr⟩:=nu hne;obtain⟨g,e1⟩:=gP h ib (i:=0) (x:=y) (by rw[hyr];rfl);by_cases hy:y=[]
  ·have e2:=iM hy;have q8:decide (x.op=8)=true:=BY p8;have q3:decide (x.lits.head?≠some [])=false:=AS (by rw[hyr,hy];simp);rw[q1,q2,q8,q3]at hk;have e1:indexAddr E 24 b (.int .i64 0)=some (.cZ g [.str y]):=e1;simp only[aA,Tryz.f172,KP,Ax.loadAt,↓reduceIte,reduceEqDiff,reduceLT,reduceCtorEq,h.mB,h.dG,h.a_,h.dB,lP,cutAt,g1,g3,g4,la,lb,q1,q2,q8,e1,e2];exact hk
  ·refine rest ?_ λ_=>⟨g,y,e1,gL hy⟩;rw[show decide (x.lits.head?≠some [])=true from BY (by rw[hyr];simpa using hy),Bool.or_true]
 ·exact rest (by rw[show decide (x.op=8)=false from AS p8];rfl) λe=>absurd e p8
theorem Sr (h:bE E) {x:Step}{a b:V} (ia:IS aO a x.args) (ib:IS aO b x.lits)(hsm:x.lits.length<=4294967296) {A B:Int}(h8:x.op=8->(x.lits.length:Int)=B->x.lits≠[]) (F:FT) (g1:F.get 1=.ref 0 0) (g3:F.get 3=.int .i64 A) (g4:F.get 4=.int .i64 B) (g5:F.get 5=.int .i64 0)
  (hk:K (.bool (x.lits.all (λl=>decide (l.length<=100))&&lE x A B)) [.cells 82 [.str x.out,.int .i64 x.op,a,b,.int .i64 x.n] true]) :
  R E (.loop (cutAt [1,1,1,0,1,2,2] (aA Tryz.f172).code)) [.blk 1,.k (cutAt [1,1,1,1] (aA Tryz.f172).code)] ⟨85,F⟩ [.cells 82 [.str x.out,.int .i64 x.op,a,b,.int .i64 x.n] true] (nL E (aA Tryz.f172).results K):=by
 have lb:=bP h ib;have key:=λF g1 g3 g4 hk=>VZ (K:=K) (A:=A) (B:=B) h ia ib h8 F g1 g3 g4 hk;generalize cutAt [1,1,1,1] (aA Tryz.f172).code=C at key ⊢;refine aV (λi F Y=>Y=[.cells 82 [.str x.out,.int .i64 x.op,a,b,.int .i64 x.n] true]/\F.get 1=.ref 0 0/\F.get 3=.int .i64 A/\F.get 4=.int .i64 B/\F.get 5=.int .i64 (i:Int)/\∀j y,j<i->x.lits[j]?=some y->y.length<=100) x.lits.length ?_ ?_ x.lits.length 0 _ _ (by omega) ⟨rfl,g1,g3,g4,g5,λj y hj=>by omega⟩
 ·rintro i F Y hi ⟨rfl,g1,g3,g4,g5,hp⟩ next
  obtain⟨y,hy⟩:∃y,x.lits[i]?=some y:=⟨_,AT hi⟩;obtain⟨g,e1⟩:=gP h ib hy;have hlt:=dP hi;have hadd:=bW i (by omega);rw[aG];by_cases hl:y.length<=100
  ·have q:decide ((100:Int)<(y.length:Int))=false:=AS (by omega);simp only[aA,Tryz.f172,KP,Ax.loadAt,↓reduceIte,reduceEqDiff,reduceLT,reduceCtorEq,h.dG,h.a_,h.dB,fT h,cutAt,g1,g5,lb,hlt,e1,q,hadd];refine next _ _ ⟨rfl,(fK (by simp +decide only[GS,g1,g3,g4,aj]) (λj z hj hz=>?_))⟩
   rcases cj j i with g | g
   ·exact hp j z g hz
   ·obtain rfl:j=i:=by omega
    rw[hy]at hz;cases hz;exact hl
  ·have q:decide ((100:Int)<(y.length:Int))=true:=BY (by omega);simp only[aA,Tryz.f172,KP,Ax.loadAt,↓reduceIte,reduceEqDiff,reduceLT,reduceCtorEq,h.dG,h.a_,h.dB,fT h,cutAt,g1,g5,lb,hlt,e1,q];rw[iC hy (AS hl),nt]at hk;exact hk
 ·rintro F Y ⟨rfl,g1,g3,g4,g5,hp⟩;have hlt:=dZ (bl x.lits.length);rw[aG];rw[A_ λj y _ hy=>BY (hp j y (AI.1 hy).1 hy),jh]at hk;simp only[aA,Tryz.f172,KP,Ax.loadAt,↓reduceIte,reduceEqDiff,reduceLT,reduceCtorEq,h.a_,h.dB,cutAt,g1,g5,lb,hlt];exact key _ (by simp +decide only[GS,g1]) (by simp +decide only[GS,g3]) (by simp +decide only[GS,g4]) hk
theorem SE {n:Nat}:decide ((n:Int)=(if (6:Int)<(n:Int) then 6 else (n:Int)))=decide (n<=6):=by
 by_cases g:(6:Int)<(n:Int)
 ·rw[az g,AS (by omega),AS (by omega)]
 ·rw[an g,BY rfl,BY (by omega)]
theorem end_1 {x:Step} (e:x.op=1):(x.lits.all (λl=>decide (l.length<=100))&&lE x 1 0)=cM x:=by
 unfold lE cM counts;rw[e]
 skip
 generalize x.lits.all (λl=>decide (l.length<=100))=L;generalize x.args.length=n;generalize x.lits.length=m;generalize x.lits.head?=hd;generalize x.n=c;rw[e8];by_cases hh:hd=some []
 ·cases L <;> simp[hh] <;> omega
 ·cases L <;> simp[hh] <;> omega
theorem ab4 {x:Step} (e:x.op=2):(x.lits.all (λl=>decide (l.length<=100))&&lE x 1 0)=cM x:=by
 unfold lE cM counts;rw[e]
 skip
 generalize x.lits.all (λl=>decide (l.length<=100))=L;generalize x.args.length=n;generalize x.lits.length=m;generalize x.lits.head?=hd;generalize x.n=c;rw[e8];by_cases hh:hd=some []
 ·cases L <;> simp[hh] <;> omega
 ·cases L <;> simp[hh] <;> omega
theorem ab3 {x:Step} (e:x.op=3):(x.lits.all (λl=>decide (l.length<=100))&&lE x 1 0)=cM x:=by
 unfold lE cM counts;rw[e]
 skip
 generalize x.lits.all (λl=>decide (l.length<=100))=L;generalize x.args.length=n;generalize x.lits.length=m;generalize x.lits.head?=hd;generalize x.n=c;rw[e8];by_cases hh:hd=some []
 ·cases L <;> simp[hh] <;> omega
 ·cases L <;> simp[hh] <;> omega
theorem ab2 {x:Step} (e:x.op=4):(x.lits.all (λl=>decide (l.length<=100))&&lE x 1 0)=cM x:=by
 unfold lE cM counts;rw[e]
 skip
 generalize x.lits.all (λl=>decide (l.length<=100))=L;generalize x.args.length=n;generalize x.lits.length=m;generalize x.lits.head?=hd;generalize x.n=c;rw[e8];by_cases hh:hd=some []
 ·cases L <;> simp[hh] <;> omega
 ·cases L <;> simp[hh] <;> omega
theorem abX {x:Step} (e:x.op=9):(x.lits.all (λl=>decide (l.length<=100))&&lE x 1 0)=cM x:=by
 unfold lE cM counts;rw[e]
 skip
 generalize x.lits.all (λl=>decide (l.length<=100))=L;generalize x.args.length=n;generalize x.lits.length=m;generalize x.lits.head?=hd;generalize x.n=c;rw[e8];by_cases hh:hd=some []
 ·cases L <;> simp[hh] <;> omega
 ·cases L <;> simp[hh] <;> omega
theorem ab1 {x:Step} (e:x.op=5):(x.lits.all (λl=>decide (l.length<=100))&&lE x (if (6:Int)<(x.args.length:Int) then 6 else (x.args.length:Int)) 0)=cM x:=by
 unfold lE cM counts;rw[e];rw[SE];generalize x.lits.all (λl=>decide (l.length<=100))=L;generalize x.args.length=n;generalize x.lits.length=m;generalize x.lits.head?=hd;generalize x.n=c;rw[e8];by_cases hh:hd=some []
 ·cases L <;> simp[hh] <;> omega
 ·cases L <;> simp[hh] <;> omega
theorem ab0 {x:Step} (e:x.op=6):(x.lits.all (λl=>decide (l.length<=100))&&lE x 0 1)=cM x:=by
 unfold lE cM counts;rw[e]
 skip
 generalize x.lits.all (λl=>decide (l.length<=100))=L;generalize x.args.length=n;generalize x.lits.length=m;generalize x.lits.head?=hd;generalize x.n=c;rw[e8];by_cases hh:hd=some []
 ·cases L <;> simp[hh] <;> omega
 ·cases L <;> simp[hh] <;> omega
theorem abZ {x:Step} (e:x.op=7):(x.lits.all (λl=>decide (l.length<=100))&&lE x 1 1)=cM x:=by
 unfold lE cM counts;rw[e]
 skip
 generalize x.lits.all (λl=>decide (l.length<=100))=L;generalize x.args.length=n;generalize x.lits.length=m;generalize x.lits.head?=hd;generalize x.n=c;rw[e8];by_cases hh:hd=some []
 ·cases L <;> simp[hh] <;> omega
 ·cases L <;> simp[hh] <;> omega
theorem abY {x:Step} (e:x.op=8):(x.lits.all (λl=>decide (l.length<=100))&&lE x 1 2)=cM x:=by
 unfold lE cM counts;rw[e]
 skip
 generalize x.lits.all (λl=>decide (l.length<=100))=L;generalize x.args.length=n;generalize x.lits.length=m;generalize x.lits.head?=hd;generalize x.n=c;rw[e8];by_cases hh:hd=some []
 ·cases L <;> simp[hh] <;> omega
 ·cases L <;> simp[hh] <;> omega
theorem N4 (h:bE E) {v:V}{x:Step}(hv:Ob v x)(hsm:x.lits.length<=4294967296):aB E 172 [v] Z K=K (.bool (cM x)) Z:=by
 refine aB.of ?_;have ev:=hv.snap (E:=E) Z;obtain⟨a,b,rfl,ia,ib⟩:=hv;have la:=bP h ia;rw[aI h.aaC h.Yb h.abu h.ZH (args':=[.agg [.str x.out,.int .i64 x.op,a,b,.int .i64 x.n]]) (by simp only[aX,ev]),aW (by kernel_rfl)];have hoka:a.aY=true:=aP ia.bD;have hokb:b.aY=true:=aP ib.bD;by_cases hop:x.op=1\/x.op=2\/x.op=3\/x.op=4\/x.op=9\/x.op=5\/x.op=6\/x.op=7\/x.op=8
 ·have key:=λA B h8 F g1 g3 g4 g5 hk=>Sr (K:=λv σ1=>match cG σ1 E.ty false v with
    |some v=>v=.bool (cM x)
    |none=>False) h ia ib hsm (A:=A) (B:=B) h8 F g1 g3 g4 g5 hk
  generalize hC:cutAt [1,1,1,1] (aA Tryz.f172).code=C at key;generalize hD:cutAt [1,1,1,0,1,2,2] (aA Tryz.f172).code=D at key;have e1:(aA Tryz.f172).code=.seq (cutAt [0] (aA Tryz.f172).code) (.seq (cutAt [1,0] (aA Tryz.f172).code) (.seq (cutAt [1,1,0] (aA Tryz.f172).code) (.seq (.seq (cutAt [1,1,1,0,0] (aA Tryz.f172).code) (.block 1 (.loop D))) C))):=by rw[<- hC,<- hD];rfl
  rw[e1];clear e1 hC hD;rcases hop with e | e | e | e | e | e | e | e | e
  ·have q:∀k:Int,decide (x.op=k)=decide ((1:Int)=k):=λk=>by rw[e]
   simp only[aA,Tryz.f172,KP,Ax.loadAt,↓reduceIte,reduceEqDiff,reduceLT,reduceAdd,reduceCtorEq,h.mB,h.dB,cutAt,q,hoka,hokb];refine key 1 0 (λe8 e9=>?_) _ ?_ ?_ ?_ ?_ ?_
   ·omega
   ·exact (by simp +decide only[GS])
   ·exact (by simp +decide only[GS])
   ·exact (by simp +decide only[GS])
   ·exact (by simp +decide only[GS])
   ·exact au V.bool (end_1 e)
  ·have q:∀k:Int,decide (x.op=k)=decide ((2:Int)=k):=λk=>by rw[e]
   simp only[aA,Tryz.f172,KP,Ax.loadAt,↓reduceIte,reduceEqDiff,reduceLT,reduceAdd,reduceCtorEq,reduceEq,h.mB,h.dB,cutAt,q,hoka,hokb];refine key 1 0 (λe8 e9=>?_) _ ?_ ?_ ?_ ?_ ?_
   ·omega
   ·exact (by simp +decide only[GS])
   ·exact (by simp +decide only[GS])
   ·exact (by simp +decide only[GS])
   ·exact (by simp +decide only[GS])
   ·exact au V.bool (ab4 e)
  ·have q:∀k:Int,decide (x.op=k)=decide ((3:Int)=k):=λk=>by rw[e]
   simp only[aA,Tryz.f172,KP,Ax.loadAt,↓reduceIte,reduceEqDiff,reduceLT,reduceAdd,reduceCtorEq,reduceEq,h.mB,h.dB,cutAt,q,hoka,hokb];refine key 1 0 (λe8 e9=>?_) _ ?_ ?_ ?_ ?_ ?_
   ·omega
   ·exact (by simp +decide only[GS])
   ·exact (by simp +decide only[GS])
   ·exact (by simp +decide only[GS])
   ·exact (by simp +decide only[GS])
   ·exact au V.bool (ab3 e)
  ·have q:∀k:Int,decide (x.op=k)=decide ((4:Int)=k):=λk=>by rw[e]
   simp only[aA,Tryz.f172,KP,Ax.loadAt,↓reduceIte,reduceEqDiff,reduceLT,reduceAdd,reduceCtorEq,reduceEq,h.mB,h.dB,cutAt,q,hoka,hokb];refine key 1 0 (λe8 e9=>?_) _ ?_ ?_ ?_ ?_ ?_
   ·omega
   ·exact (by simp +decide only[GS])
   ·exact (by simp +decide only[GS])
   ·exact (by simp +decide only[GS])
   ·exact (by simp +decide only[GS])
   ·exact au V.bool (ab2 e)
  ·have q:∀k:Int,decide (x.op=k)=decide ((9:Int)=k):=λk=>by rw[e]
   simp only[aA,Tryz.f172,KP,Ax.loadAt,↓reduceIte,reduceEqDiff,reduceLT,reduceAdd,reduceCtorEq,reduceEq,h.mB,h.dB,cutAt,q,hoka,hokb];refine key 1 0 (λe8 e9=>?_) _ ?_ ?_ ?_ ?_ ?_
   ·omega
   ·exact (by simp +decide only[GS])
   ·exact (by simp +decide only[GS])
   ·exact (by simp +decide only[GS])
   ·exact (by simp +decide only[GS])
   ·exact au V.bool (abX e)
  ·have q:∀k:Int,decide (x.op=k)=decide ((5:Int)=k):=λk=>by rw[e]
   simp only[aA,Tryz.f172,KP,Ax.loadAt,↓reduceIte,reduceEqDiff,reduceLT,reduceAdd,reduceCtorEq,reduceEq,h.mB,h.a_,h.dB,cutAt,la,q,hoka,hokb,min2];refine key (if (6:Int)<(x.args.length:Int) then 6 else (x.args.length:Int)) 0 (λe8 e9=>?_) _ ?_ ?_ ?_ ?_ ?_
   ·omega
   ·exact (by simp +decide only[GS])
   ·exact (by simp +decide only[GS])
   ·exact (by simp +decide only[GS])
   ·exact (by simp +decide only[GS])
   ·exact au V.bool (ab1 e)
  ·have q:∀k:Int,decide (x.op=k)=decide ((6:Int)=k):=λk=>by rw[e]
   simp only[aA,Tryz.f172,KP,Ax.loadAt,↓reduceIte,reduceEqDiff,reduceLT,reduceAdd,reduceCtorEq,reduceEq,h.mB,h.dB,cutAt,q,hoka,hokb];refine key 0 1 (λe8 e9=>?_) _ ?_ ?_ ?_ ?_ ?_
   ·omega
   ·exact (by simp +decide only[GS])
   ·exact (by simp +decide only[GS])
   ·exact (by simp +decide only[GS])
   ·exact (by simp +decide only[GS])
   ·exact au V.bool (ab0 e)
  ·have q:∀k:Int,decide (x.op=k)=decide ((7:Int)=k):=λk=>by rw[e]
   simp only[aA,Tryz.f172,KP,Ax.loadAt,↓reduceIte,reduceEqDiff,reduceLT,reduceAdd,reduceCtorEq,reduceEq,h.mB,h.dB,cutAt,q,hoka,hokb];refine key 1 1 (λe8 e9=>?_) _ ?_ ?_ ?_ ?_ ?_
   ·omega
   ·exact (by simp +decide only[GS])
   ·exact (by simp +decide only[GS])
   ·exact (by simp +decide only[GS])
   ·exact (by simp +decide only[GS])
   ·exact au V.bool (abZ e)
  ·have q:∀k:Int,decide (x.op=k)=decide ((8:Int)=k):=λk=>by rw[e]
   simp only[aA,Tryz.f172,KP,Ax.loadAt,↓reduceIte,reduceEqDiff,reduceLT,reduceAdd,reduceCtorEq,reduceEq,h.mB,h.dB,cutAt,q,hoka,hokb];refine key 1 2 (λe8 e9=>?_) _ ?_ ?_ ?_ ?_ ?_
   ·intro e0;rw[e0]at e9;simp at e9
   ·exact (by simp +decide only[GS])
   ·exact (by simp +decide only[GS])
   ·exact (by simp +decide only[GS])
   ·exact (by simp +decide only[GS])
   ·exact au V.bool (abY e)
 ·have q:∀k:Int,(k=1\/k=2\/k=3\/k=4\/k=9\/k=5\/k=6\/k=7\/k=8)->decide (x.op=k)=false:=λk hk=>AS (λe=>hop (by rw[e];exact hk));have q1:=q 1 (by simp);have q2:=q 2 (by simp);have q3:=q 3 (by simp);have q4:=q 4 (by simp);have q5:=q 5 (by simp);have q6:=q 6 (by simp);have q7:=q 7 (by simp);have q8:=q 8 (by simp);have q9:=q 9 (by simp);simp only[aA,Tryz.f172,KP,Ax.loadAt,↓reduceIte,reduceEqDiff,reduceLT,reduceAdd,reduceCtorEq,h.mB,h.dB,hoka,hokb,q1,q2,q3,q4,q5,q6,q7,q8,q9]
  have e:cM x=false:=by
   unfold cM;rw[AS (by omega)];rfl
  rw[e];exact rfl
theorem Ns (h:bE E) {v:V}{x:Step}(hv:Ob v x)(hsm:x.lits.length<=4294967296):KC E 172 [v] Z (.bool (cM x)) Z:=dD λ_=>N4 h hv hsm
end
end
section
section
variable {E:Env}{Z:Sg}{K:V->Sg->Prop}
def uA (l:List bC) (c:Nat):List bC:=if c=47 then l++[[]] else l.set (l.length-1) ((l[l.length-1]?).getD []++[c])
theorem Aq (c:Nat):∀s:bC,cP c s≠[]
 | []=>by simp[cP]
 |a::r=>by
  rw[cP];split
  ·simp
  ·split <;> simp
theorem xN {p:bC}{l:List bC}(hl:l≠[]) (c:Nat):uA (p::l) c=p::uA l c:=by
 obtain⟨x,r,rfl⟩:=nu hl;unfold uA;split
 ·rfl
 ·simp
theorem uM (c:Nat):∀s:bC,cP 47 (s++[c])=uA (cP 47 s) c
 | []=>by
  by_cases h:c=47 <;> simp[cP,uA,h]
 |a::r=>by
  have ih:=uM c r;rw[eu,cP,cP];by_cases h:a=47
  ·rw[az h,az h,ih,xN (Aq 47 r)]
  ·rw[an h,an h,ih];obtain⟨p,ps,hp⟩:=nu (Aq 47 r);rw[hp];cases ps with
   |nil=>
    unfold uA;by_cases hc:c=47
    ·simp[hc]
    ·simp[hc]
   |cons q qs=>
    have e1:uA (p::q::qs) c=p::uA (q::qs) c:=xN (by simp) c;have e2:uA ((a::p)::q::qs) c=(a::p)::uA (q::qs) c:=xN (by simp) c;rw[e1];exact e2.symm
theorem sL (c:Nat):∀s:bC,(cP c s).length<=s.length+1
 | []=>OF _
 |a::r=>by
  have ih:=sL c r;rw[cP];split
  ·simp only[af];omega
  ·split
   ·rename_i h;rw[h]at ih;simp only[af]at ih ⊢;omega
   ·simp
theorem uN {s:bC}:∀{P:List bC},cP 47 s=P->∀y∈P,y.length<=s.length:=by
 induction s with
 |nil=>intro P hP y hy;subst hP;simp[cP]at hy;subst hy;exact OF _
 |cons a r ih=>
  intro P hP y hy;subst hP;rw[cP]at hy;split at hy
  ·rcases IT.1 hy with rfl | hy
   ·simp
   ·have:=ih rfl y hy;simp only[af];omega
  ·split at hy
   ·rename_i p ps hp;rcases IT.1 hy with rfl | hy
    ·have:=ih hp p (IN ..);simp only[af];omega
    ·have:=ih hp y (ae _ hy);simp only[af];omega
   ·simp at hy;subst hy;simp
theorem Ex (n:Nat)(h0:0<n)(h:n<9223372036854775807):wr .i64 ((n:Int)-1)=((n-1:Nat):Int):=by
 rw[Al,az]
 ·omega
 ·have h1:lo .i64 = -9223372036854775808:=rfl;have h2:hi .i64=9223372036854775807:=rfl;rw[h1,h2,ai,aa,aa];omega
theorem L7 (h:bE E) {s:bC}{i c:Nat}(hc:s[i]?=some c):Ax.index E 9 (.str s) (.int .i64 (i:Int))=some (.int .u8 (c:Int)):=by
 have hneg:¬ ((i:Int)<0):=by omega
 unfold Ax.index;simp only[h.dG,hneg,ay,dz,hc]
theorem MR (h:bE E) {s:bC}{i c:Nat}(hc:s[i]?=some c):Ax.slice E Z 9 (.str s) (some (.int .i64 (i:Int))) (some (.int .i64 ((i+1:Nat):Int))) none=some (.str [c]):=by
 have hi:=(AI.1 hc).1
 have hb:∀n m:Nat,m<=n->∀d,Ax.bound n (some (.int .i64 (m:Int))) d=some m:=λn m hm d=>by
  unfold Ax.bound;simp only[];rw[az (by simp only[ai,aa];omega)];rfl
 unfold Ax.slice;simp only[h.dG,jt,ah,ay];rw[hb s.length (i+1) hi];simp only[];rw[hb (i+1) i (by omega)];simp only[];rw[show i+1-i=1 by omega,o9 hi];have:=(AI.1 hc).2;rw[this];rfl
theorem lD (s:bC):Ax.fill (λj=>some (j*1,1)) (gX 1 [V.str []]) [(0,V.str s)]=some [.str s]:=rfl
theorem T8 (h:bE E) {s:bC}(hsm:s.length<=1000000000):aB E 196 [.str s] Z λv σ'=>σ'=Z/\kI aO v (cP 47 s):=by
 rw[aI h.aav h.X5 h.abn h.ZB (args':=[.str s]) (by simp only[aX,dK]),aW (by kernel_rfl)];simp only[aA,Tryz.f196,KP,↓reduceIte,reduceLT,reduceLeDiff,reduceMul,h.dG,h.a_,lP,lD];have d7:=h.WM;simp only[aA,Tryz.f196,cutAt,aq]at d7;refine aV (λi F Y=>F.get 0=.str s/\F.get 4=.int .i64 (i:Int)/\∃w,F.get 3=w/\bB aO 9 Y w (cP 47 (s.take i))) s.length ?_ ?_ s.length 0 _ _ (by omega) (lX (by simp +decide only[GS,aj]) ⟨.sl 0 0 1 none,(by simp +decide only[GS]),.inr ⟨0,[[.str []]],true,rfl,rfl,.one rfl⟩⟩)
 ·rintro i F Y hi ⟨g0,g4,w,g3,ow⟩ next
  obtain⟨c,hc⟩:∃c,s[i]?=some c:=⟨_,AT hi⟩;have e1:=L7 h hc;have hlt:=dP hi;have hadd:=bW i (by omega);have htk:s.take (i+1)=s.take i++[c]:=by rw[ek,hc];rfl
  have hln:=sL 47 (s.take i);have hln2:(s.take i).length<=s.length:=by rw[bw];omega
  rw[aG];by_cases h47:c=47
  ·have q:decide ((c:Int)=47)=true:=BY (by omega);obtain⟨w',τ',ha,ow',-,-,-⟩:=kP (ats:=#[24,24]) (x:=.sl Y.length 0 1 none) (m:=[[]]) (new:=[[.str []]]) h.a_ rfl h.dG rfl (by decide) (jZ h) rfl (ow.app [.cells 9 [.str []] true]) (lW rfl) (.one rfl) (dQ (b:=1000000002) (by decide) (by simp only[af,b9];omega));simp only[KP,↓reduceIte,reduceEqDiff,reduceLT,reduceLeDiff,reduceMul,reduceCtorEq,h.dG,h.a_,fT h,lP,g0,g3,g4,hlt,e1,q,lD,ha,hadd];refine next _ _ (lX (by simp +decide only[GS,g0,aj]) ⟨w',(by simp +decide only[GS]),?_⟩)
   rw[htk,uM,uA,az h47];exact ow'
  ·have q:decide ((c:Int)=47)=false:=AS (by omega);have hpos:0<(cP 47 (s.take i)).length:=iy.2 (Aq 47 _);generalize hP:cP 47 (s.take i)=P at *;obtain⟨y,hy⟩:∃y,P[P.length-1]?=some y:=⟨_,AT (by omega)⟩
   have hyl:y.length<=s.length:=by
    have:=uN hP y (ag hy);omega
   obtain⟨b,e2,-,τ',e3,ow',-,-⟩:=EG (u:=.str (y++[c])) (y:=y++[c]) h.a_ rfl h.dG rfl ow (i:=P.length-1) (by omega) rfl rfl;obtain⟨p,r,e4,e5,-,e6,-⟩:=FG (Z:=Y) h.a_ rfl h.dG rfl ow.ls hy;have e6:=e6 rfl (by decide);rw[e2]at e4;cases e4;rw[show r=[.str y] from e5]at e6;have e6:loadAt E Y 9 (.ref b ((P.length-1)*1))=some (.str y):=e6;have e3:storeAt E Y 9 (.ref b ((P.length-1)*1)) (.str (y++[c]))=some τ':=e3;have e2:indexAddr E 24 w (.int .i64 ((P.length-1:Nat):Int))=some (.ref b ((P.length-1)*1)):=e2
   have lw:∀Z,lenOf E Z 24 w=some P.length:=λZ=>by
    rcases ow with⟨rfl,rfl⟩ | ⟨b,rs,ex,rfl,-⟩
    ·simp at hpos
    ·unfold lenOf;rw[h.a_]
   have hdn:=Ex P.length hpos (by omega);have hsl:=λZ=>MR (Z:=Z) h hc;have hcat:decide (y.length<=9223372036854775806)=true:=BY (by omega);simp only[KP,↓reduceIte,reduceEqDiff,reduceLT,reduceLeDiff,reduceCtorEq,fT h,g0,g3,g4,hlt,e1,q,lw,hdn,aT d7,bK,e2,e6,hadd,hsl,hcat,e3];refine next _ _ ⟨?_,?_,w,?_,?_⟩
   ·exact (by simp +decide only[GS,g0])
   ·exact (by simp +decide only[GS])
   ·exact (by simp +decide only[GS,g3])
   rw[htk,uM,hP,uA,an h47,hy];exact ow'
 ·rintro F Y ⟨g0,g4,w,g3,ow⟩;have hlt:=dZ (bl s.length);rw[aG];rw[ak (OF _)]at ow;obtain⟨v',e1,hv⟩:=pJ h.dG rfl (λr x hr c hc=>by rw[show r=[.str x] from hr]at hc;cases hc with | head=>rfl | tail _ h=>cases h) ow;simp only[KP,↓reduceIte,reduceEqDiff,reduceLT,reduceCtorEq,fT h,g0,g3,g4,hlt,e1];exact hv
end
end
section
section
variable {E:Env}{Z:Sg}{K:V->Sg->Prop}
theorem PE {s:bC}(h1:pP s=false)(h2:s.length<=40):bI s=(cP 47 s).all sV:=by
 unfold bI;rw[h1,BY h2];simp
theorem AF {p:bC}(h:p=[]\/p=[46]\/p=[46,46]):sV p=false:=by
 unfold sV;rcases h with rfl | rfl | rfl <;> simp
theorem J2 {p:bC}(h1:p≠[])(h2:p≠[46])(h3:p≠[46,46]):sV p=p.all sign:=by
 unfold sV;rw[AS h1,AS h2,AS h3];simp
theorem QM (h:bE E) {s:bC}:aB E 173 [.str s] Z K=K (.bool (bI s)) Z:=by
 refine aB.of ?_;rw[aI h.aaB h.Ya h.abt h.ZG (args':=[.str s]) (by simp only[aX,dK]),aW (by kernel_rfl)];have ls:∀Z,lenOf E Z 9 (.str s)=some s.length:=λZ=>fT h;by_cases h0:s=[]
 ·subst h0;simp only[aA,Tryz.f173,KP,↓reduceIte,reduceEqDiff,reduceLT,reduceCtorEq,Int.reduceLT,fT h];exact rfl
 have hl0:0<s.length:=iy.2 h0;have q0:decide ((s.length:Int)<1)=false:=AS (by omega);by_cases h40:s.length<=40
 case neg=>
  have q1:decide ((40:Int)<(s.length:Int))=true:=BY (by omega);simp only[aA,Tryz.f173,KP,↓reduceIte,reduceEqDiff,reduceLT,reduceCtorEq,fT h,q0,q1];show V.bool false=_;unfold bI;rw[AS h40,Bool.and_false,nt]
 have q1:decide ((40:Int)<(s.length:Int))=false:=AS (by omega);by_cases w3:s=[114,117,108,101]
 ·have e3:=iM w3;simp only[aA,Tryz.f173,KP,↓reduceIte,reduceEqDiff,reduceLT,reduceCtorEq,fT h,DP,q0,q1,e3];rw[w3];exact rfl
 have e3:=gL w3;by_cases w4:s=[105,110]
 ·have e4:=iM w4;simp only[aA,Tryz.f173,KP,↓reduceIte,reduceEqDiff,reduceLT,reduceCtorEq,fT h,DP,GN,q0,q1,e3,e4];rw[w4];exact rfl
 have e4:=gL w4;by_cases w5:s=[111,117,116]
 ·have e5:=iM w5;simp only[aA,Tryz.f173,KP,↓reduceIte,reduceEqDiff,reduceLT,reduceCtorEq,fT h,DP,GN,Ku,q0,q1,e3,e4,e5];rw[w5];exact rfl
 have e5:=gL w5;by_cases w6:s=[97,102,116,101,114]
 ·have e6:=iM w6;simp only[aA,Tryz.f173,KP,↓reduceIte,reduceEqDiff,reduceLT,reduceCtorEq,fT h,DP,GN,Ku,QC,q0,q1,e3,e4,e5,e6];rw[w6];exact rfl
 have e6:=gL w6;have hsm:s.length<=1000000000:=by omega
 have hr:pP s=false:=by unfold pP;rw[AS w3,AS w4,AS w5,AS w6];rfl
 rw[PE hr h40];simp only[aA,Tryz.f173,KP,↓reduceIte,reduceEqDiff,reduceLT,reduceCtorEq,fT h,DP,GN,Ku,QC,q0,q1,e3,e4,e5,e6];refine aN (T8 h hsm) ?_;rintro v σ' ⟨rfl,hv⟩;have iv:=hv.is;have la:=bP h iv;have hPl:=sL 47 s;have hPp:=uN (s:=s) rfl;generalize cP 47 s=P at *;simp only[KP,↓reduceIte,reduceLT];refine aV (λi F Y=>Y=[]/\F.get 3=v/\F.get 4=.int .i64 (i:Int)/\∀j y,j<i->P[j]?=some y->sV y=true) P.length ?_ ?_ P.length 0 _ _ (by omega) ⟨rfl,(lX (by simp +decide only[GS,aj]) (λj y hj=>by omega))⟩
 ·rintro i F Y hi ⟨rfl,g3,g4,hp⟩ next
  obtain⟨p,hpi⟩:∃p,P[i]?=some p:=⟨_,AT hi⟩;have hpl:=hPp p (ag hpi);obtain⟨g,e1⟩:=gP h iv hpi;have hlt:=dP hi;have hadd:=bW i (by omega);rw[aG];by_cases b1:p=[]
  ·have s1:=iM b1;rw[iC hpi (AF (.inl b1))];simp only[KP,Ax.loadAt,↓reduceIte,reduceEqDiff,reduceLT,h.dG,lP,g3,g4,la,hlt,e1,s1];exact rfl
  have s1:=gL b1;by_cases b2:p=[46]
  ·have s2:=iM b2;rw[iC hpi (AF (.inr (.inl b2)))];simp only[KP,Ax.loadAt,↓reduceIte,reduceEqDiff,reduceLT,h.dG,lP,NJ,g3,g4,la,hlt,e1,s1,s2];exact rfl
  have s2:=gL b2;by_cases b3:p=[46,46]
  ·have s3:=iM b3;rw[iC hpi (AF (.inr (.inr b3)))];simp only[KP,Ax.loadAt,↓reduceIte,reduceEqDiff,reduceLT,h.dG,lP,NJ,TS,g3,g4,la,hlt,e1,s1,s2,s3];exact rfl
  have s3:=gL b3;simp only[KP,Ax.loadAt,↓reduceIte,reduceEqDiff,reduceLT,h.dG,lP,NJ,TS,g3,g4,la,hlt,e1,s1,s2,s3];refine aV (λk F Y=>Y=[]/\F.get 3=v/\F.get 4=.int .i64 (i:Int)/\F.get 5=.int .i64 (k:Int)/\∀j y,j<k->p[j]?=some y->sign y=true) p.length ?_ ?_ p.length 0 _ _ (by omega) ⟨rfl,(iU (by simp +decide only[GS,g3,g4,aj]) (λj y hj=>by omega))⟩
  ·rintro k F Y hk ⟨rfl,g3,g4,g5,hq⟩ next2;obtain⟨c,hc⟩:∃c,p[k]?=some c:=⟨_,AT hk⟩;have e2:=L7 h hc;have hlt2:=dP hk;have hadd2:=bW k (by omega);have kf:=λ(Y:Sg)=>Wn (Z:=Y) h (c:=c);rw[aG];by_cases hs:sign c=true
   ·simp only[KP,Ax.loadAt,↓reduceIte,reduceEqDiff,reduceLT,h.dG,fT h,g3,g4,g5,hlt2,e1,e2,kf,hs,hadd2];refine next2 _ _ ⟨rfl,(iU (by simp +decide only[GS,g3,g4,aj]) (λj y hj hy=>?_))⟩;rcases cj j k with g | g
    ·exact hq j y g hy
    ·obtain rfl:j=k:=by omega
     rw[hc]at hy;cases hy;exact hs
   ·have hs:sign c=false:=by simpa using hs
    rw[iC hpi (by rw[J2 b1 b2 b3];exact iC hc hs)];simp only[KP,Ax.loadAt,↓reduceIte,reduceEqDiff,reduceLT,h.dG,fT h,g3,g4,g5,hlt2,e1,e2,kf,hs];exact rfl
  ·rintro F Y ⟨rfl,g3,g4,g5,hq⟩;have hlt2:=dZ (bl p.length);rw[aG];simp only[KP,Ax.loadAt,↓reduceIte,reduceEqDiff,reduceLT,h.dG,fT h,g3,g4,g5,hlt2,e1,hadd];refine next _ _ ⟨rfl,(lX (by simp +decide only[GS,g3,aj]) (λj y hj hy=>?_))⟩
   rcases cj j i with g | g
   ·exact hp j y g hy
   ·obtain rfl:j=i:=by omega
    rw[hpi]at hy;cases hy;rw[J2 b1 b2 b3];exact A_ λj y _ hy=>hq j y (AI.1 hy).1 hy
 ·rintro F Y ⟨rfl,g3,g4,hp⟩;have hlt:=dZ (bl P.length);rw[aG];rw[A_ λj y _ hy=>hp j y (AI.1 hy).1 hy];simp only[KP,↓reduceIte,reduceEqDiff,reduceLT,g3,g4,la,hlt];exact rfl
theorem Qc (h:bE E) {s:bC}:KC E 173 [.str s] Z (.bool (bI s)) Z:=dD λ_=>QM h
end
end
section
section
variable {E:Env}{Z:Sg}{K:V->Sg->Prop}
theorem qI {f:V->V->Bool}:∀{l:List V},(∀x∈l,f x x=true)->sA f l l=true
 | [],_=>rfl
 |x::l,h=>by
  show (f x x&&sA f l l)=true;rw[h x (IN ..),qI λy hy=>h y (ae _ hy)];rfl
theorem D6 {f:List V->List V->Bool}:∀{l:List (List V)},(∀x∈l,f x x=true)->sA f l l=true
 | [],_=>rfl
 |x::l,h=>by
  show (f x x&&sA f l l)=true;rw[h x (IN ..),D6 λy hy=>h y (ae _ hy)];rfl
theorem Oo {α:Type}{L:Lay α} (n:Nat)(hL:∀r x,L.P r x->∀c∈r,tX n c c=true) {v:V}{l:List α}(h:IS L v l):tX (n+1) v v=true:=by
 rcases h with⟨rfl,-⟩ | ⟨g,rs,full,rfl,ha⟩
 ·rfl
 ·show (g==g&&sA (sA (tX n)) rs rs&&full==full)=true;rw[D6 λr hr=>?_]
  ·simp
  ·obtain⟨x,-,hp⟩:=ha.mem hr;exact qI (hL r x hp)
theorem Be (n:Nat) (s:bC):tX (n+1) (.str s) (.str s)=true:=iM rfl
theorem KY (n:Nat) (k:IntKind) (i:Int):tX (n+1) (.int k i) (.int k i)=true:=by
 show (decide (k=k)&&decide (i=i))=true;simp
theorem cK {v:V}{l:List bC} (n:Nat)(h:IS aO v l):tX (n+2) v v=true:=Oo (n+1) (λr x hr c hc=>by
 rw[show r=[.str x] from hr]at hc;cases hc with
 |head=>exact Be n x
 |tail _ h=>cases h) h
theorem pD {v:V}{l:List AxS.Step} (n:Nat)(h:IS eZ v l):tX (n+3) v v=true:=Oo (n+2) (λr x hr c hc=>by
 obtain⟨a,b,rfl,h1,h2⟩:=hr;simp only[IT,cr,fu]at hc;rcases hc with rfl | rfl | rfl | rfl | rfl
 ·exact Be (n+1) _
 ·exact KY (n+1) _ _
 ·exact cK n h1
 ·exact cK n h2
 ·exact KY (n+1) _ _) h
theorem Ae (h:bE E) {Y:Sg}{w v:V}{l m:List bC} (ow:bB aO 9 Y w l) (iv:IS aO v m)(hb:l.length+m.length<=1000000000):∃w' τ',Ax.append E Y #[24,24] w v=some (w',τ')/\bB aO 9 τ' w' (l++m)/\Sp Y τ' w/\Y.length<=τ'.length/\∀b,aQ w'=some b->aQ w=some b\/Y.length<=b:=by
 obtain⟨rs,e,ha⟩:=rV iv Y;exact kP h.a_ rfl h.dG rfl (by decide) (jZ h) rfl ow e ha (dQ (b:=1000000000) (by decide) hb)
theorem GZ (h:bE E) {Y:Sg}{w:V}{l:List bC}{s:bC}{ex:Bool} (ow:bB aO 9 Y w l)(hb:l.length<=1000000000):∃w' τ',Ax.append E (Y++[.cells 9 [.str s] ex]) #[24,24] w (.sl Y.length 0 1 none)=some (w',τ')/\bB aO 9 τ' w' (l++[s])/\Sp (Y++[.cells 9 [.str s] ex]) τ' w/\Y.length<=τ'.length:=by
 obtain⟨w',τ',h1,h2,h3,h4,-⟩:=kP (m:=[s]) (new:=[[.str s]]) h.a_ rfl h.dG rfl (by decide) (jZ h) rfl (ow.app [.cells 9 [.str s] ex]) (lW rfl) (.one rfl) (dQ (b:=1000000001) (by decide) (by simp only[af,b9];omega));exact⟨w',τ',h1,h2,h3,by simp only[By,af,b9]at h4;omega⟩
theorem Tg (h:bE E) {x:aD}{a b c d:V} (ia:IS aO a x.ins) (ib:IS aO b x.outs) (ic:IS aO c x.after)(hsm:x.ins.length<=100000000/\x.outs.length<=100000000/\x.after.length<=100000000) (F:FT) (g1:F.get 1=.ref 0 0) (g2:F.get 2=.bool false) :
  ∃F' Y w,cO E (ev E 0) (opsOf (cutAt [1,0] (aA Tryz.f137).code)) ⟨64,F⟩ [.cells 46 [.str x.name,a,b,c,d] true]=some (⟨64,F'⟩,Y)/\F'.get 1=.ref 0 0/\F'.get 3=w/\Y[0]?=some (.cells 46 [.str x.name,a,b,c,d] true)/\bB aO 9 Y w (x.name::(x.ins++(x.outs++x.after)))/\aQ w≠some 0:=by
 have o0:bB aO 9 [.cells 46 [.str x.name,a,b,c,d] true,.cells 9 [.str x.name] true] (.sl 1 0 1 none) [x.name]:=.inr ⟨1,[[.str x.name]],true,rfl,rfl,.one rfl⟩;obtain⟨w1,τ1,ha1,o1,k1,n1,-⟩:=Ae h o0 ia (by simp only[af,b9];omega);obtain⟨w2,τ2,ha2,o2,k2,n2,-⟩:=Ae h o1 ib (by simp only[By,af,b9];omega);obtain⟨w3,τ3,ha3,o3,k3,n3,-⟩:=Ae h o2 ic (by simp only[By,af,b9];omega);have b1:τ1[0]?=some (.cells 46 [.str x.name,a,b,c,d] true):=k1 0 _ rfl (by show some 1≠some 0;simp)
 have nb:∀{Y:Sg}{w:V}{l:List bC},Y[0]?=some (.cells 46 [.str x.name,a,b,c,d] true)->bB aO 9 Y w l->aQ w≠some 0:=by
  rintro Y w l hb (⟨rfl,-⟩ | ⟨b,rs,ex,rfl,hc,-⟩) e
  ·cases e
  ·cases e;rw[hb]at hc;cases hc
 have b2:τ2[0]?=some (.cells 46 [.str x.name,a,b,c,d] true):=k2 0 _ b1 (nb b1 o1);have b3:τ3[0]?=some (.cells 46 [.str x.name,a,b,c,d] true):=k3 0 _ b2 (nb b2 o2);have va:=cK 10 ia;have vb:=cK 10 ib;have vc:=cK 10 ic;unfold cO;rw[h.US,h.VP];simp only[aA,Tryz.f137,KP,Ax.loadAt,↓reduceIte,reduceEqDiff,reduceLT,reduceLeDiff,reduceAdd,reduceMul,reduceCtorEq,h.dG,h.a_,h.bM,opsOf,cutAt,Fz.lits,Fz.apps,iL,bL,cA,kY,Ax.comp,Ax.last,iN,Ax.again,g1,lD,ha1,ha2,ha3,b1,b2,va,vb,vc];refine⟨_,_,w3,rfl,(lX (by simp +decide only[GS,g1,aj]) ⟨b3,?_,nb b3 o3⟩)⟩;have e:[x.name]++x.ins++x.outs++x.after=x.name::(x.ins++(x.outs++x.after)):=by simp
 rw[<- e];exact o3
theorem Tf (h:bE E) {x:aD}{a b c d:V} (id:IS eZ d x.steps) {st:AxS.Step}{i:Nat}(hi:x.steps[i]?=some st) {Y:Sg}{w:V}{l:List bC} (b0:Y[0]?=some (.cells 46 [.str x.name,a,b,c,d] true)) (ow:bB aO 9 Y w l) (nw:aQ w≠some 0)(hsm:l.length<=500000000/\st.args.length<=100000000)
  (F:FT) (g1:F.get 1=.ref 0 0) (g3:F.get 3=w) (g4:F.get 4=.int .i64 (i:Int)) :
  ∃F' τ' w',cO E (ev E 0) (opsOf (cutAt [1,1,0,1,2,2,1,0,2,1] (aA Tryz.f137).code)) ⟨64,F⟩ Y=some (⟨64,F'⟩,τ')/\F'.get 1=.ref 0 0/\F'.get 3=w'/\F'.get 4=.int .i64 (i:Int)/\τ'[0]?=some (.cells 46 [.str x.name,a,b,c,d] true)/\bB aO 9 τ' w' (l++st.out::st.args)/\aQ w'≠some 0:=by
 obtain⟨g,p,q,e1,ip,iq⟩:=wN h id hi;obtain⟨w1,τ1,ha1,o1,k1,n1⟩:=GZ (s:=st.out) (ex:=true) h ow (by omega);obtain⟨w2,τ2,ha2,o2,k2,n2,-⟩:=Ae h o1 ip (by simp only[By,af,b9];omega);have b0':(Y++[O.cells 9 [.str st.out] true])[0]?=some (.cells 46 [.str x.name,a,b,c,d] true):=by rw[b8 (AI.1 b0).1];exact b0
 have nb:∀{Y:Sg}{w:V}{l:List bC},Y[0]?=some (.cells 46 [.str x.name,a,b,c,d] true)->bB aO 9 Y w l->aQ w≠some 0:=by
  rintro Y w l hb (⟨rfl,-⟩ | ⟨b,rs,ex,rfl,hc,-⟩) e
  ·cases e
  ·cases e;rw[hb]at hc;cases hc
 have b1:τ1[0]?=some (.cells 46 [.str x.name,a,b,c,d] true):=k1 0 _ b0' nw;have b2:τ2[0]?=some (.cells 46 [.str x.name,a,b,c,d] true):=k2 0 _ b1 (nb b1 o1);have va:=cK 10 ip;have vd:=pD 9 id;unfold cO;rw[h.UR,h.VO];simp only[aA,Tryz.f137,KP,Ax.loadAt,↓reduceIte,reduceEqDiff,reduceLT,reduceLeDiff,reduceAdd,reduceMul,reduceCtorEq,h.dG,h.a_,h.fS,h.bM,h.dB,opsOf,cutAt,Fz.lits,Fz.apps,iL,bL,cA,kY,Ax.comp,Ax.last,iN,Ax.again,g1,g3,g4,lD,ha1,ha2,b0,b0',b1,e1,va,vd];refine⟨_,_,w2,rfl,(iU (by simp +decide only[GS,g1,g4,aj]) ⟨b2,?_,nb b2 o2⟩)⟩;have e:l++[st.out]++st.args=l++st.out::st.args:=by simp
 rw[<- e];exact o2
theorem Ti (h:bE E) {x:aD}{a b c d:V} (ia:IS aO a x.ins) (ib:IS aO b x.outs) (ic:IS aO c x.after)(hsm:x.ins.length<=100000000/\x.outs.length<=100000000/\x.after.length<=100000000) (F:FT) (g1:F.get 1=.ref 0 0) (g2:F.get 2=.bool false) {s:List kH}{Q:Ax.X->Fr->Sg->Prop}
  (hk:∀F' Y w,F'.get 1=.ref 0 0->F'.get 3=w->Y[0]?=some (.cells 46 [.str x.name,a,b,c,d] true)->bB aO 9 Y w (x.name::(x.ins++(x.outs++x.after)))->aQ w≠some 0->M E s .normal ⟨64,F'⟩ Y Q):R E (.region 1 (opsOf (cutAt [1,0] (aA Tryz.f137).code)) true) s ⟨64,F⟩ [.cells 46 [.str x.name,a,b,c,d] true] Q:=by
 obtain⟨F',Y,w,hE,h1,h2,h3,h4,h5⟩:=Tg h ia ib ic hsm F g1 g2 (d:=d);exact Eq.mpr (i_ hE) (hk F' Y w h1 h2 h3 h4 h5)
theorem Th (h:bE E) {x:aD}{a b c d:V} (id:IS eZ d x.steps) {st:AxS.Step}{i:Nat}(hi:x.steps[i]?=some st) {Y:Sg}{w:V}{l:List bC} (b0:Y[0]?=some (.cells 46 [.str x.name,a,b,c,d] true)) (ow:bB aO 9 Y w l) (nw:aQ w≠some 0)(hsm:l.length<=500000000/\st.args.length<=100000000)
  (F:FT) (g1:F.get 1=.ref 0 0) (g3:F.get 3=w) (g4:F.get 4=.int .i64 (i:Int)) {s:List kH}{Q:Ax.X->Fr->Sg->Prop}
  (hk:∀F' τ' w',F'.get 1=.ref 0 0->F'.get 3=w'->F'.get 4=.int .i64 (i:Int)->τ'[0]?=some (.cells 46 [.str x.name,a,b,c,d] true)->bB aO 9 τ' w' (l++st.out::st.args)->aQ w'≠some 0->M E s .normal ⟨64,F'⟩ τ' Q) :
  R E (.region 7 (opsOf (cutAt [1,1,0,1,2,2,1,0,2,1] (aA Tryz.f137).code)) true) s ⟨64,F⟩ Y Q:=by
 obtain⟨F',τ',w',hE,h1,h2,h3,h4,h5,h6⟩:=Tf h id hi b0 ow nw hsm F g1 g3 g4;exact Eq.mpr (i_ hE) (hk F' τ' w' h1 h2 h3 h4 h5 h6)
end
end
section
section
variable {E:Env}{Z:Sg}{K:V->Sg->Prop}
def lB (x:aD) (l:List AxS.Step):List bC:=x.name::(x.ins++(x.outs++x.after))++l.flatMap λs=>s.out::s.args
theorem Tj (x:aD):kX x=(x.steps.all cM&&((lB x x.steps).all bI&&decide (0<x.outs.length))):=by
 unfold kX lB;rw[e8];simp only[ai,ez,aa,cq,IT,jb,iy];constructor
 ·rintro⟨⟨⟨⟨⟨h1,h2⟩,h3⟩,h4⟩,h5⟩,h6⟩;refine⟨λs hs=>(h6 s hs).2,λn hn=>?_,h2⟩;rcases hn with (rfl | hn | hn | hn) | ⟨s,hs,rfl | hn⟩
  ·exact h1
  ·exact h3 n hn
  ·exact h4 n hn
  ·exact h5 n hn
  ·exact (h6 s hs).1.1
  ·exact (h6 s hs).1.2 n hn
 ·rintro⟨h1,h2,h3⟩
  exact⟨⟨⟨⟨⟨h2 _ (.inl (.inl rfl)),h3⟩,λn hn=>h2 n (.inl (.inr (.inl hn)))⟩,λn hn=>h2 n (.inl (.inr (.inr (.inl hn))))⟩,λn hn=>h2 n (.inl (.inr (.inr (.inr hn))))⟩,
   λs hs=>⟨⟨h2 _ (.inr ⟨s,hs,.inl rfl⟩),λn hn=>h2 n (.inr ⟨s,hs,.inr hn⟩)⟩,h1 s hs⟩⟩
theorem zL {x:aD}(hx:Small x):∀l:List AxS.Step,l.length<=14->(∀s∈l,s.args.length<=8)->(lB x l).length<=1000:=by
 intro l h1 h2
 have:∀l:List AxS.Step,(∀s∈l,s.args.length<=8)->(l.flatMap λs=>s.out::s.args).length<=9*l.length:=by
  intro l
  induction l with
  |nil=>intro _;simp
  |cons s l ih=>
   intro h;have:=ih λy hy=>h y (ae _ hy);have:=h s (IN ..);simp only[j6,By,af];omega
 have:=this l h2;have a1:=hx.ins;have a2:=hx.outs;have a3:=hx.after;unfold lB;simp only[By,af];omega
theorem W5 (h:bE E) {v:V}{x:aD}(hv:Jd v x)(hx:Small x):aB E 137 [v] Z K=K (.bool (kX x)) Z:=by
 refine aB.of ?_;have ev:=hv.snap (E:=E) Z;obtain⟨a,b,c,d,rfl,ia,ib,ic,id⟩:=hv;have a1:=hx.ins;have a2:=hx.outs;have a3:=hx.after;have a4:=hx.steps;rw[aI h.aaK h.Yj h.abB h.ZO (args':=[.agg [.str x.name,a,b,c,d]]) (by simp only[aX,ev]),aW (by kernel_rfl)];have ha:=aP ia.bD;have hb:=aP ib.bD;have hc:=aP ic.bD;have hd:=aP id.bD;have lb:=bP h ib;have ld:=lT h id;rw[Tj];simp only[aA,Tryz.f137,KP,↓reduceIte,reduceLT,reduceAdd,h.bM,ha,hb,hc,hd];refine Ti h ia ib ic (by omega) _ ?_ ?_ ?_
 ·exact (by simp +decide only[GS])
 ·exact (by simp +decide only[GS])
 intro F1 τ1 w1 g1 g3 b1 o1 n1;simp only[KP,↓reduceIte,reduceLT];refine aV (λi F Y=>Y[0]?=some (.cells 46 [.str x.name,a,b,c,d] true)/\F.get 1=.ref 0 0/\F.get 4=.int .i64 (i:Int)/\(∃w,F.get 3=w/\bB aO 9 Y w (lB x (x.steps.take i))/\aQ w≠some 0)/\∀j y,j<i->x.steps[j]?=some y->cM y=true) x.steps.length ?_ ?_ x.steps.length 0 _ _ (by omega) ⟨b1,(lX (by simp +decide only[GS,g1,aj]) ⟨⟨w1,(by simp +decide only[GS,g3]),by simpa [lB]using o1,n1⟩,λj y hj=>by omega⟩)⟩
 ·rintro i F Y hi ⟨b0,g1,g4,⟨w,g3,ow,nw⟩,hp⟩ next
  obtain⟨st,hst⟩:∃y,x.steps[i]?=some y:=⟨_,AT hi⟩;have hmem:=ag hst;obtain⟨g,p,q,e1,ip,iq⟩:=wN h id hst;have hlt:=dP hi;have hadd:=bW i (by omega);have hlits:=hx.lits st hmem;have hargs:=hx.args st hmem;have kf:=λ(Y:Sg)=>Ns (Z:=Y) h (v:=.agg [.str st.out,.int .i64 st.op,p,q,.int .i64 st.n]) (x:=st) ⟨p,q,rfl,ip,iq⟩ (by omega);rw[aG];by_cases hm:cM st=true
  ·simp only[KP,Ax.loadAt,↓reduceIte,reduceEqDiff,reduceLT,reduceAdd,reduceCtorEq,h.fS,h.bM,h.dB,g1,g4,b0,ld,hlt,e1,kf,hm];have hln:=zL hx (x.steps.take i) (by rw[bw];omega) (λs hs=>hx.args s (ji hs));refine Th h id hst b0 ow nw (by omega) _ ?_ ?_ ?_ ?_
   ·exact (by simp +decide only[GS,g1])
   ·exact (by simp +decide only[GS,g3])
   ·exact (by simp +decide only[GS,g4])
   intro F2 τ2 w2 k1 k3 k4 b2 o2 n2;simp only[KP,↓reduceIte,reduceLT,k4,hadd];refine next _ _ ⟨b2,(lX (by simp +decide only[GS,k1,aj]) ⟨⟨w2,(by simp +decide only[GS,k3]),?_,n2⟩,λj y hj hy=>?_⟩)⟩
   ·have e:lB x (x.steps.take (i+1))=lB x (x.steps.take i)++st.out::st.args:=by
     rw[ek,hst];simp[lB]
    rw[e];exact o2
   ·rcases cj j i with g | g
    ·exact hp j y g hy
    ·obtain rfl:j=i:=by omega
     rw[hst]at hy;cases hy;exact hm
  ·have hm:cM st=false:=by simpa using hm
   rw[iC hst hm,nt];simp only[KP,Ax.loadAt,↓reduceIte,reduceEqDiff,reduceLT,reduceAdd,reduceCtorEq,h.fS,h.bM,h.dB,g1,g4,b0,ld,hlt,e1,kf,hm];exact rfl
 ·rintro F Y ⟨b0,g1,g4,⟨w,g3,ow,nw⟩,hp⟩;have hlt:=dZ (bl x.steps.length);rw[aG];rw[A_ λj y _ hy=>hp j y (AI.1 hy).1 hy,jh];rw[ak (OF _)]at ow;have hln:=zL hx x.steps (by omega) hx.args;generalize lB x x.steps=L at *;have lw:∀σ',(σ'=Y)->lenOf E σ' 24 w=some L.length:=λσ' e=>by subst e;exact nD h.a_ rfl ow.ls
  have lw:=lw Y rfl;simp only[KP,Ax.loadAt,↓reduceIte,reduceEqDiff,reduceLT,reduceCtorEq,h.fS,h.bM,g1,g4,b0,ld,hlt];refine aV (λi F σ1=>σ1=Y/\F.get 1=.ref 0 0/\F.get 3=w/\F.get 5=.int .i64 (i:Int)/\∀j y,j<i->L[j]?=some y->bI y=true) L.length ?_ ?_ L.length 0 _ _ (by omega) ⟨rfl,(iU (by simp +decide only[GS,g1,g3,aj]) (λj y hj=>by omega))⟩
  ·rintro i F σ1 hi ⟨rfl,g1,g3,g5,hq⟩ next
   obtain⟨y,hy⟩:∃y,L[i]?=some y:=⟨_,AT hi⟩;have hlt:=dP hi;have hadd:=bW i (by omega);obtain⟨p,r,e1,hr,-,e2,-⟩:=FG (Z:=σ1) h.a_ rfl h.dG rfl ow.ls hy;have e2:=e2 rfl (by decide);rw[show r=[.str y] from hr]at e2;have kf:=λ(Y:Sg)=>Qc (Z:=Y) h (s:=y);rw[aG];by_cases hm:bI y=true
   ·simp only[KP,↓reduceIte,reduceEqDiff,reduceLT,g3,g5,lw,hlt,e1,e2,kf,hm,hadd];refine next _ _ ⟨rfl,(iU (by simp +decide only[GS,g1,g3,aj]) (λj z hj hz=>?_))⟩
    rcases cj j i with g | g
    ·exact hq j z g hz
    ·obtain rfl:j=i:=by omega
     rw[hy]at hz;cases hz;exact hm
   ·have hm:bI y=false:=by simpa using hm
    rw[iC hy hm,nt];simp only[KP,↓reduceIte,reduceEqDiff,reduceLT,g3,g5,lw,hlt,e1,e2,kf,hm];exact rfl
  ·rintro F σ1 ⟨rfl,g1,g3,g5,hq⟩;have hlt:=dZ (bl L.length);rw[aG];rw[A_ λj y _ hy=>hq j y (AI.1 hy).1 hy,jh]
   have q:decide ((0:Int)<(x.outs.length:Int))=decide (0<x.outs.length):=by
    by_cases g:0<x.outs.length
    ·rw[BY g,BY (by omega)]
    ·rw[AS g,AS (by omega)]
   simp only[KP,Ax.loadAt,↓reduceIte,reduceEqDiff,reduceLT,reduceCtorEq,h.a_,h.bM,g1,g3,g5,lw,hlt,b0,lb,q];exact rfl
theorem Wk (h:bE E) {v:V}{x:aD}(hv:Jd v x)(hx:Small x):KC E 137 [v] Z (.bool (kX x)) Z:=dD λ_=>W5 h hv hx
end
end
section
section
variable {E:Env}{Z:Sg}{K:V->Sg->Prop}
theorem vK {α:Type}{p:α->Bool}{l:List α}:(bQ p l).isNone = !l.any p:=by
 rw[<- cF (p:=p) (l:=l)];cases bQ p l <;> rfl
theorem Ma {l:List bC}{s:bC}(h:s∈l):(bQ (λy=>decide (y=s)) l).isSome=true:=by rw[cF,any_eq];exact BY h
theorem Mb {l:List bC}{s:bC}(h:s ∉ l):(bQ (λy=>decide (y=s)) l).isSome=false:=by rw[cF,any_eq];exact AS h
theorem Qs {l:List bC}{s:bC}(h:s ∉ l):(bQ (λy=>decide (y=s)) l).isNone=true:=by rw[vK,any_eq,AS h];rfl
theorem Qt {l:List bC}{s:bC}(h:s∈l):(bQ (λy=>decide (y=s)) l).isNone=false:=by rw[vK,any_eq,BY h];rfl
theorem aL {Y:Sg}{x:O}:(Y++[x])[Y.length]?=some x:=by simp
theorem bR {Y:Sg}{x y:O}:(Y++[x]).set Y.length y=Y++[y]:=by simp
theorem aJ {Y:Sg}{x y:O}{i:Nat}(h:Y[i]?=some y):(Y++[x])[i]?=some y:=by rw[b8 (AI.1 h).1];exact h
theorem lM {Y:Sg}{w:V}{l:List bC}{k u:Nat}{cs:List V}(hb:Y[k]?=some (.cells u cs true))(hu:u≠9) (ow:bB aO 9 Y w l):aQ w≠some k:=by
 rcases ow with⟨rfl,-⟩ | ⟨b,rs,ex,rfl,hc,-⟩
 ·intro e;cases e
 ·intro e;cases e;rw[hb]at hc;cases hc;exact hu rfl
theorem Pd (h:bE E) {x:aD}{a b c d w:V}{Y:Sg}{Ks:List bC} (ia:IS aO a x.ins) (ib:IS aO b x.outs)(hx:Small x)(hK:Ks.length<=14) (b0:Y[0]?=some (.cells 46 [.str x.name,a,b,c,d] true)) (ow:bB aO 9 Y w Ks) (F:FT) (g1:F.get 1=.ref 0 0) (g3:F.get 3=w)
  (hk:K (.int .i64 (if (x.outs.all λo=>!decide (o∈x.ins)&&decide (o∈Ks))=true then 0 else 2)) Y):R E (cutAt [1,1,1,1] (aA Tryz.f111).code) [] ⟨139,F⟩ Y (nL E (aA Tryz.f111).results K):=by
 have a1:=hx.ins;have a2:=hx.outs;have lb:=bP h ib;have d23:=h.TL;simp only[aA,Tryz.f111,cutAt,aq]at d23;simp only[aA,Tryz.f111,KP,↓reduceIte,reduceLT,cutAt];refine aV (λi F σ1=>σ1=Y/\F.get 1=.ref 0 0/\F.get 3=w/\F.get 7=.int .i64 (i:Int)/\∀j y,j<i->x.outs[j]?=some y->y ∉ x.ins/\y∈Ks) x.outs.length ?_ ?_ x.outs.length 0 _ _ (by omega) ⟨rfl,(iU (by simp +decide only[GS,g1,g3,aj]) (λj y hj=>by omega))⟩
 ·rintro i F σ1 hi ⟨rfl,g1,g3,g7,hp⟩ next
  obtain⟨y,hy⟩:∃y,x.outs[i]?=some y:=⟨_,AT hi⟩;obtain⟨g,e1⟩:=gP h ib hy;have hlt:=dP hi;have hadd:=bW i (by omega);have k1:=tE (Z:=σ1) h (a:=a) (l:=x.ins) (s:=y) (ia.ls σ1 9) (by omega);have k2:=tE (Z:=σ1) h (a:=w) (l:=Ks) (s:=y) ow.ls (by omega);rw[aG];by_cases h1:y∈x.ins
  ·have s1:=Ma h1;rw[an (by rw[iC hy (by rw[BY h1];rfl)];simp)]at hk;simp only[KP,Ax.loadAt,↓reduceIte,reduceEqDiff,reduceLT,reduceCtorEq,h.dG,h.a_,h.bM,g1,g7,lb,hlt,b0,e1,k1,kW,s1,aT d23,bK];exact hk
  have s1:=Mb h1;by_cases h2:y∈Ks
  ·have s2:=Qt h2;simp only[KP,Ax.loadAt,↓reduceIte,reduceEqDiff,reduceLT,reduceCtorEq,h.dG,h.a_,h.bM,g1,g3,g7,lb,hlt,b0,e1,k1,k2,kW,Dv,s1,s2,hadd,aT d23,bK];refine next _ _ ⟨rfl,(iU (by simp +decide only[GS,g1,g3,aj]) (λj z hj hz=>?_))⟩
   rcases cj j i with g | g
   ·exact hp j z g hz
   ·obtain rfl:j=i:=by omega
    rw[hy]at hz;cases hz;exact⟨h1,h2⟩
  ·have s2:=Qs h2;rw[an (by rw[iC hy (by rw[AS h2];simp)];simp)]at hk;simp only[KP,Ax.loadAt,↓reduceIte,reduceEqDiff,reduceLT,reduceCtorEq,h.dG,h.a_,h.bM,g1,g3,g7,lb,hlt,b0,e1,k1,k2,kW,Dv,s1,s2,aT d23,bK];exact hk
 ·rintro F σ1 ⟨rfl,g1,g3,g7,hp⟩;have hlt:=dZ (bl x.outs.length);rw[aG]
  rw[az (A_ λj y _ hy=>by
   obtain⟨h1,h2⟩:=hp j y (AI.1 hy).1 hy;rw[AS h1,BY h2];rfl)]at hk
  simp only[KP,Ax.loadAt,↓reduceIte,reduceEqDiff,reduceLT,reduceCtorEq,h.a_,h.bM,g1,g7,lb,hlt,b0];exact hk
def OD (x:aD) (i:Nat) (s:AxS.Step):Prop:=s.out ∉ x.ins++(x.steps.take i).map Step.out/\∀y∈s.args,y∈x.ins++(x.steps.take i).map Step.out
theorem uL:∀(l:List AxS.Step) (known:List bC),iJ known l=true ↔ ∀i s,l[i]?=some s->s.out ∉ known++(l.take i).map Step.out/\∀y∈s.args,y∈known++(l.take i).map Step.out
 | [],known=>by simp[iJ]
 |s::l,known=>by
  rw[iJ,ai,ai,uL l];simp only[gw,decide_eq_false_iff_not,ez,aa];constructor
  ·rintro⟨⟨h1,h2⟩,h3⟩ i t ht;cases i with
   |zero=>cases ht;simpa using ⟨h1,h2⟩
   |succ i=>have:=h3 i t ht;simpa using this
  ·intro h0;refine⟨by simpa using h0 0 s rfl,λi t ht=>?_⟩;have:=h0 (i+1) t ht;simpa using this
theorem JS (h:bE E) {x:aD}{a b c d:V} (ia:IS aO a x.ins) (ib:IS aO b x.outs) (id:IS eZ d x.steps)(hx:Small x) (F:FT) (g1:F.get 1=.ref 0 0)
  (hk:∀Y,K (.int .i64 (if iJ x.ins x.steps=true/\(x.outs.all λo=>!decide (o∈x.ins)&&decide (o∈x.steps.map Step.out))=true then 0 else 2)) Y):R E (cutAt [1,1] (aA Tryz.f111).code) [] ⟨139,F⟩ [.cells 46 [.str x.name,a,b,c,d] true] (nL E (aA Tryz.f111).results K):=by
 have a1:=hx.ins;have a4:=hx.steps;have ld:=lT h id;have fin:=λY w b0 ow F g1 g3 hk=>Pd (K:=K) h ia ib hx (c:=c) (d:=d) (w:=w) (Y:=Y) (Ks:=x.steps.map Step.out) (by rw[bj];omega) b0 ow F g1 g3 hk;have d17:=h.TM;simp only[aA,Tryz.f111,cutAt,aq]at d17;rw[show cutAt [1,1] (aA Tryz.f111).code=.seq (cutAt [1,1,0] (aA Tryz.f111).code) (.seq (cutAt [1,1,1,0] (aA Tryz.f111).code) (cutAt [1,1,1,1] (aA Tryz.f111).code)) from rfl];generalize cutAt [1,1,1,1] (aA Tryz.f111).code=C at *;simp only[aA,Tryz.f111,KP,↓reduceIte,reduceLT,cutAt];refine aV (λi F Y=>Y[0]?=some (.cells 46 [.str x.name,a,b,c,d] true)/\F.get 1=.ref 0 0/\F.get 4=.int .i64 (i:Int)/\(∃w,F.get 3=w/\bB aO 9 Y w ((x.steps.take i).map Step.out))/\∀j s,j<i->x.steps[j]?=some s->OD x j s) x.steps.length ?_ ?_ x.steps.length 0 _ _ (by omega) ⟨rfl,(lX (by simp +decide only[GS,g1,aj]) ⟨⟨.aF,(by simp +decide only[GS]),.inl ⟨rfl,rfl⟩⟩,λj y hj=>by omega⟩)⟩
 ·rintro i F Y hi ⟨b0,g1,g4,⟨w,g3,ow⟩,hp⟩ next
  obtain⟨st,hst⟩:∃y,x.steps[i]?=some y:=⟨_,AT hi⟩;have hmem:=ag hst;have a5:=hx.args st hmem;obtain⟨g,p,q,e1,ip,iq⟩:=wN h id hst;have hop:=aP ip.bD;have hoq:=aP iq.bD;have hlt:=dP hi;have hadd:=bW i (by omega);have lp:=bP h ip;have hKl:((x.steps.take i).map Step.out).length<=14:=by rw[bj,bw];omega
  have bx:(Y++[O.cells 82 [.str st.out,.int .i64 st.op,p,q,.int .i64 st.n] true])[Y.length]?=some (.cells 82 [.str st.out,.int .i64 st.op,p,q,.int .i64 st.n] true):=aL;have b1:=aJ (x:=O.cells 82 [.str st.out,.int .i64 st.op,p,q,.int .i64 st.n] true) b0;have o1:=ow.app [O.cells 82 [.str st.out,.int .i64 st.op,p,q,.int .i64 st.n] true]
  have hbad:∀Y,¬ OD x i st->K (.int .i64 2) Y:=λY hn=>by
   have:=hk Y
   rwa [an (λe=>hn ((uL _ _).1 e.1 i st hst))]at this
  have k1:=tE (Z:=Y++[O.cells 82 [.str st.out,.int .i64 st.op,p,q,.int .i64 st.n] true]) h (a:=a) (l:=x.ins) (s:=st.out) (ia.ls _ 9) (by omega);have k2:=tE (Z:=Y++[O.cells 82 [.str st.out,.int .i64 st.op,p,q,.int .i64 st.n] true]) h (a:=w) (l:=(x.steps.take i).map Step.out) (s:=st.out) o1.ls (by omega);rw[aG];by_cases h1:st.out∈x.ins
  ·have s1:=Ma h1;simp only[KP,Ax.loadAt,Ax.storeAt,↓reduceIte,reduceEqDiff,reduceLT,reduceAdd,reduceCtorEq,h.dG,h.a_,h.fS,h.bM,h.dB,g1,g4,ld,hlt,b0,e1,hop,hoq,aL,bR,b1,bx,k1,kW,s1];exact hbad _ λe=>e.1 (List.mem_append_left _ h1)
  have s1:=Mb h1;by_cases h2:st.out∈(x.steps.take i).map Step.out
  ·have s2:=Ma h2;simp only[KP,Ax.loadAt,Ax.storeAt,↓reduceIte,reduceEqDiff,reduceLT,reduceAdd,reduceCtorEq,h.dG,h.a_,h.fS,h.bM,h.dB,g1,g3,g4,ld,hlt,b0,e1,hop,hoq,aL,bR,b1,bx,k1,k2,kW,s1,s2];exact hbad _ λe=>e.1 (k9 _ h2)
  have s2:=Mb h2;simp only[KP,Ax.loadAt,Ax.storeAt,↓reduceIte,reduceEqDiff,reduceLT,reduceAdd,reduceCtorEq,h.dG,h.a_,h.fS,h.bM,h.dB,g1,g3,g4,ld,hlt,b0,e1,hop,hoq,aL,bR,b1,bx,k1,k2,kW,s1,s2];generalize hτ:Y++[O.cells 82 [.str st.out,.int .i64 st.op,p,q,.int .i64 st.n] true]=τ1 at *;generalize Y.length=nx at *;refine aV (λk F σ1=>σ1=τ1/\F.get 1=.ref 0 0/\F.get 3=w/\F.get 4=.int .i64 (i:Int)/\F.get 5=.ref nx 0/\F.get 6=.int .i64 (k:Int)/\∀j y,j<k->st.args[j]?=some y->y∈x.ins++(x.steps.take i).map Step.out) st.args.length ?_ ?_ st.args.length 0 _ _ (by omega) ⟨rfl,(iT (by simp +decide only[GS,g1,g3,g4,aj]) (λj y hj=>by omega))⟩
  ·rintro k F σ1 hk2 ⟨rfl,g1,g3,g4,g5,g6,hq⟩ next2;obtain⟨y,hy⟩:∃y,st.args[k]?=some y:=⟨_,AT hk2⟩;obtain⟨g,e2⟩:=gP h ip hy;have hlt2:=dP hk2;have hadd2:=bW k (by omega);have k3:=tE (Z:=σ1) h (a:=a) (l:=x.ins) (s:=y) (ia.ls _ 9) (by omega);have k4:=tE (Z:=σ1) h (a:=w) (l:=(x.steps.take i).map Step.out) (s:=y) o1.ls (by omega);rw[aG];by_cases h3:y∈x.ins
   ·have s3:=Qt h3;simp only[KP,Ax.loadAt,↓reduceIte,reduceEqDiff,reduceLT,reduceCtorEq,h.dG,h.a_,h.bM,h.dB,g1,g5,g6,lp,hlt2,b1,bx,e2,k3,Dv,s3,hadd2,aT d17,bK];refine next2 _ _ ⟨rfl,(iT (by simp +decide only[GS,g1,g3,g4,g5,aj]) (λj z hj hz=>?_))⟩;rcases cj j k with g | g
    ·exact hq j z g hz
    ·obtain rfl:j=k:=by omega
     rw[hy]at hz;cases hz;exact List.mem_append_left _ h3
   have s3:=Qs h3;by_cases h4:y∈(x.steps.take i).map Step.out
   ·have s4:=Qt h4;simp only[KP,Ax.loadAt,↓reduceIte,reduceEqDiff,reduceLT,reduceCtorEq,h.dG,h.a_,h.bM,h.dB,g1,g3,g5,g6,lp,hlt2,b1,bx,e2,k3,k4,Dv,s3,s4,hadd2,aT d17,bK];refine next2 _ _ ⟨rfl,(iT (by simp +decide only[GS,g1,g3,g4,g5,aj]) (λj z hj hz=>?_))⟩;rcases cj j k with g | g
    ·exact hq j z g hz
    ·obtain rfl:j=k:=by omega
     rw[hy]at hz;cases hz;exact k9 _ h4
   ·have s4:=Qs h4;simp only[KP,Ax.loadAt,↓reduceIte,reduceEqDiff,reduceLT,reduceCtorEq,h.dG,h.a_,h.bM,h.dB,g1,g3,g5,g6,lp,hlt2,b1,bx,e2,k3,k4,Dv,s3,s4,aT d17,bK];exact hbad _ λe=>(cq.1 (e.2 y (ag hy))).elim h3 h4
  ·rintro F σ1 ⟨rfl,g1,g3,g4,g5,g6,hq⟩;have hlt2:=dZ (bl st.args.length);obtain⟨w2,τ2,ha2,o2,k2',n2⟩:=GZ (s:=st.out) (ex:=true) h o1 (by omega);rw[aG];simp only[KP,Ax.loadAt,↓reduceIte,reduceEqDiff,reduceLT,reduceLeDiff,reduceMul,reduceCtorEq,h.dG,h.a_,h.dB,g3,g4,g5,g6,lp,hlt2,bx,lD,ha2,hadd];have b2:τ2[0]?=some (.cells 46 [.str x.name,a,b,c,d] true):=k2' 0 _ (aJ b1) (lM b1 (by decide) o1);refine next _ _ ⟨b2,(lX (by simp +decide only[GS,g1,aj]) ⟨⟨w2,(by simp +decide only[GS]),?_⟩,λj s hj hs=>?_⟩)⟩
   ·have e:(x.steps.take (i+1)).map Step.out=(x.steps.take i).map Step.out++[st.out]:=by rw[ek,hst];simp
    rw[e];exact o2
   ·rcases cj j i with g | g
    ·exact hp j s g hs
    ·obtain rfl:j=i:=by omega
     rw[hst]at hs;cases hs
     exact⟨λe=>(cq.1 e).elim h1 h2,λy hy=>by
      obtain⟨n,hn,e⟩:=fm hy;exact hq n y hn (by rw[AT hn,e])⟩
 ·rintro F Y ⟨b0,g1,g4,⟨w,g3,ow⟩,hp⟩;have hlt:=dZ (bl x.steps.length);rw[ak (OF _)]at ow;have hst:iJ x.ins x.steps=true:=(uL _ _).2 λi s hs=>hp i s (AI.1 hs).1 hs;have hk:=hk Y;rw[hst]at hk;simp only[true_and]at hk;rw[aG];simp only[KP,Ax.loadAt,↓reduceIte,reduceEqDiff,reduceLT,reduceCtorEq,h.fS,h.bM,g1,g4,ld,hlt,b0];exact fin Y w b0 ow _ (by simp +decide only[GS,g1]) (by simp +decide only[GS,g3]) hk
end
end
section
section
variable {E:Env}{Z:Sg}{K:V->Sg->Prop}
theorem PA (x:aD):fH x=(!k_ x.ins&&(!k_ x.outs&&(!k_ x.after&&(!decide (x.name∈x.after)&&(iJ x.ins x.steps&&x.outs.all λo=>!decide (o∈x.ins)&&decide (o∈x.steps.map Step.out)))))):=by
 unfold fH;rw[e8];simp only[ai,ez,aa,gw,decide_eq_false_iff_not,cq];constructor
 ·rintro⟨⟨⟨⟨⟨⟨h1,h2⟩,h3⟩,h4⟩,h5⟩,h6⟩,h7⟩;exact⟨h1,h2,h3,h4,h6,λo ho=>⟨h5 o ho,(h7 o ho).resolve_left (h5 o ho)⟩⟩
 ·rintro⟨h1,h2,h3,h4,h6,h7⟩;exact⟨⟨⟨⟨⟨⟨h1,h2⟩,h3⟩,h4⟩,λo ho=>(h7 o ho).1⟩,h6⟩,λo ho=>.inr (h7 o ho).2⟩
theorem NW (h:bE E) {v:V}{x:aD}(hv:Jd v x)(hx:Small x):aB E 111 [v] Z K=K (.int .i64 (bA x)) Z:=by
 refine aB.of ?_;have ev:=hv.snap (E:=E) Z;obtain⟨a,b,c,d,rfl,ia,ib,ic,id⟩:=hv;have a1:=hx.ins;have a2:=hx.outs;have a3:=hx.after;have a4:=hx.steps;rw[aI h.aaS h.Yr h.abJ h.ZW (args':=[.agg [.str x.name,a,b,c,d]]) (by simp only[aX,ev]),aW (by kernel_rfl)];have ha:=aP ia.bD;have hb:=aP ib.bD;have hc:=aP ic.bD;have hd:=aP id.bD;have la:=bP h ia;have lb:=bP h ib;have lc:=bP h ic;have ld:=lT h id;have kf:=λ(Y:Sg)=>Wk (Z:=Y) h (v:=.agg [.str x.name,a,b,c,d]) (x:=x) ⟨a,b,c,d,rfl,ia,ib,ic,id⟩ hx
 have key:=λF g1 hk=>JS (K:=λv σ1=>match cG σ1 E.ty false v with
    |some v=>v=.int .i64 (bA x)
    |none=>False) h ia ib id hx (c:=c) F g1 hk
 rw[show (aA Tryz.f111).code=.seq (cutAt [0] (aA Tryz.f111).code) (.seq (cutAt [1,0] (aA Tryz.f111).code) (cutAt [1,1] (aA Tryz.f111).code)) from rfl];generalize cutAt [1,1] (aA Tryz.f111).code=C at *;by_cases f:kX x=true
 case neg=>
  have f:kX x=false:=by simpa using f
  rw[show bA x=1 from az f];simp only[aA,Tryz.f111,KP,Ax.loadAt,↓reduceIte,reduceEqDiff,reduceLT,reduceAdd,h.bM,cutAt,ha,hb,hc,hd,kf,f];exact rfl
 have r1:bA x=if long x=true then 4 else if fH x=false then 2 else 0:=an (by simp[f]);have q1:decide ((8:Int)<(x.ins.length:Int))=decide (8<x.ins.length):=by rw[e8];simp only[aa];omega
 have q2:decide ((4:Int)<(x.outs.length:Int))=decide (4<x.outs.length):=by rw[e8];simp only[aa];omega
 have q3:decide ((8:Int)<(x.after.length:Int))=decide (8<x.after.length):=by rw[e8];simp only[aa];omega
 have q4:decide ((12:Int)<(x.steps.length:Int))=decide (12<x.steps.length):=by rw[e8];simp only[aa];omega
 by_cases hl:long x=true
 ·rw[r1,az hl];unfold long at hl;cases l1:decide (8<x.ins.length) with
  |true=>
   simp only[aA,Tryz.f111,KP,Ax.loadAt,↓reduceIte,reduceEqDiff,reduceLT,reduceAdd,reduceCtorEq,h.a_,h.bM,cutAt,ha,hb,hc,hd,kf,f,la,q1,l1];exact rfl
  |false=>
   cases l2:decide (4<x.outs.length) with
   |true=>
    simp only[aA,Tryz.f111,KP,Ax.loadAt,↓reduceIte,reduceEqDiff,reduceLT,reduceAdd,reduceCtorEq,h.a_,h.bM,cutAt,ha,hb,hc,hd,kf,f,la,lb,q1,q2,l1,l2];exact rfl
   |false=>
    cases l3:decide (8<x.after.length) with
    |true=>
     simp only[aA,Tryz.f111,KP,Ax.loadAt,↓reduceIte,reduceEqDiff,reduceLT,reduceAdd,reduceCtorEq,h.a_,h.bM,cutAt,ha,hb,hc,hd,kf,f,la,lb,lc,q1,q2,q3,l1,l2,l3];exact rfl
    |false=>
     have l4:decide (12<x.steps.length)=true:=by rw[l1,l2,l3]at hl;simpa using hl
     simp only[aA,Tryz.f111,KP,Ax.loadAt,↓reduceIte,reduceEqDiff,reduceLT,reduceAdd,reduceCtorEq,h.a_,h.fS,h.bM,cutAt,ha,hb,hc,hd,kf,f,la,lb,lc,ld,q1,q2,q3,q4,l1,l2,l3,l4];exact rfl
 rw[an hl,PA]at r1;have hl:long x=false:=by simpa using hl
 unfold long at hl;simp only[Bool.or_eq_false_iff]at hl;obtain⟨⟨⟨l1,l2⟩,l3⟩,l4⟩:=hl;have t1:=λ(Y:Sg)=>GC (Z:=Y) h (a:=a) (l:=x.ins) (ia.ls Y 9) (by omega);have t2:=λ(Y:Sg)=>GC (Z:=Y) h (a:=b) (l:=x.outs) (ib.ls Y 9) (by omega);have t3:=λ(Y:Sg)=>GC (Z:=Y) h (a:=c) (l:=x.after) (ic.ls Y 9) (by omega);have t4:=λ(Y:Sg)=>tE (Z:=Y) h (a:=c) (l:=x.after) (s:=x.name) (ic.ls Y 9) (by omega);cases w1:k_ x.ins with
 |true=>
  rw[show bA x=2 from by rw[r1,w1];rfl];simp only[aA,Tryz.f111,KP,Ax.loadAt,↓reduceIte,reduceEqDiff,reduceLT,reduceAdd,reduceCtorEq,h.a_,h.fS,h.bM,cutAt,ha,hb,hc,hd,kf,f,la,lb,lc,ld,q1,q2,q3,q4,l1,l2,l3,l4,t1,w1];exact rfl
 |false=>
 cases w2:k_ x.outs with
 |true=>
  rw[show bA x=2 from by rw[r1,w1,w2];rfl];simp only[aA,Tryz.f111,KP,Ax.loadAt,↓reduceIte,reduceEqDiff,reduceLT,reduceAdd,reduceCtorEq,h.a_,h.fS,h.bM,cutAt,ha,hb,hc,hd,kf,f,la,lb,lc,ld,q1,q2,q3,q4,l1,l2,l3,l4,t1,w1,t2,w2];exact rfl
 |false=>
 cases w3:k_ x.after with
 |true=>
  rw[show bA x=2 from by rw[r1,w1,w2,w3];rfl];simp only[aA,Tryz.f111,KP,Ax.loadAt,↓reduceIte,reduceEqDiff,reduceLT,reduceAdd,reduceCtorEq,h.a_,h.fS,h.bM,cutAt,ha,hb,hc,hd,kf,f,la,lb,lc,ld,q1,q2,q3,q4,l1,l2,l3,l4,t1,w1,t2,w2,t3,w3];exact rfl
 |false=>
 by_cases w4:x.name∈x.after
 ·have s4:=Ma w4;rw[show bA x=2 from by rw[r1,w1,w2,w3,BY w4];rfl];simp only[aA,Tryz.f111,KP,Ax.loadAt,↓reduceIte,reduceEqDiff,reduceLT,reduceAdd,reduceCtorEq,h.dG,h.a_,h.fS,h.bM,cutAt,ha,hb,hc,hd,kf,f,la,lb,lc,ld,q1,q2,q3,q4,l1,l2,l3,l4,t1,w1,t2,w2,t3,w3,t4,kW,s4];exact rfl
 ·have s4:=Mb w4;rw[w1,w2,w3,AS w4]at r1;simp only[aA,Tryz.f111,KP,Ax.loadAt,↓reduceIte,reduceEqDiff,reduceLT,reduceAdd,reduceCtorEq,h.dG,h.a_,h.fS,h.bM,cutAt,ha,hb,hc,hd,kf,f,la,lb,lc,ld,q1,q2,q3,q4,l1,l2,l3,l4,t1,w1,t2,w2,t3,w3,t4,kW,s4];refine key _ (by simp +decide only[GS]) λY=>?_;show V.int .i64 _=V.int .i64 (bA x);rw[r1];refine au _ ?_;by_cases e:iJ x.ins x.steps=true/\(x.outs.all λo=>!decide (o∈x.ins)&&decide (o∈x.steps.map Step.out))=true
  ·rw[az e,e.1,e.2];rfl
  ·rw[an e,az];simp only[mj,jh];cases u1:iJ x.ins x.steps with
   |false=>rfl
   |true=>
    cases u2:(x.outs.all λo=>!decide (o∈x.ins)&&decide (o∈x.steps.map Step.out)) with
    |false=>rfl
    |true=>exact absurd ⟨u1,u2⟩ e
theorem Nl (h:bE E) {v:V}{x:aD}(hv:Jd v x)(hx:Small x):KC E 111 [v] Z (.int .i64 (bA x)) Z:=dD λ_=>NW h hv hx
end
end
end Go.Proofs.YtmbikbgdbbcbmaaGreatDoor
end
