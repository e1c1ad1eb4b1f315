/- Part 3 of the proof. -/
import Derived.Test.YtmbikbgdbbcbmaaGreatDoorY
import Derived.Test.YtmbikbgdbbcbmaaGreatDoorZ2
import Derived.Test.YtmbikbgdbbcbmaaGreatDoorProg
import Derived.KernelRfl
set_option maxHeartbeats 8000000
set_option linter.unusedVariables false
section
namespace Go.Proofs.YtmbikbgdbbcbmaaGreatDoor
open Go Go.Ax
noncomputable def Ol:BT Ty:=BT.MS (RO Tryz.prog) 9 0
theorem G6:Ol.Ae (wS Tryz.prog):=by unfold Ol;exact BT.BZ (g:=RO Tryz.prog) (p:=wS Tryz.prog) (λ_ _ h=>RN h) 9 0
theorem noGo:(Tryz.prog.funcs.all λfn=>!(fn.name == "runtime.NumGoroutine"))=true:=by kernel_rfl
noncomputable def L2:BT Ax.Fn:=BT.MS (S8 Tryz.prog) 9 0
theorem Iu:L2.Ae (KI Tryz.prog):=by unfold L2;exact BT.BZ (g:=S8 Tryz.prog) (p:=KI Tryz.prog) (λ_ _ h=>S7 noGo h) 9 0
def ty5:Ty:={ kd:=.int .u8,size:=1,bytes:=1,zero:=.int .u8 0 }
def cM:Ty:={ kd:=.str,size:=1,bytes:=16,zero:=.str [] }
def cL:Ty:={ kd:=.jR [(0,4),(1,9)],size:=2,bytes:=24,zero:=.agg [.bool false,.str []] }
def tT:Ty:={ kd:=.map 9 4,size:=1,bytes:=8,zero:=.b_ }
theorem aba:jC Tryz.prog 7 [.int .i64,.int .i64,.bool,.int .u8]:=jC.of Tryz.underlying7 (by kernel_rfl) (by kernel_rfl) (.cons 0 _ _ _ _ _ (by decide) rfl Tryz.underlying2 rfl (.cons 1 _ _ _ _ _ (by decide) rfl Tryz.underlying3 rfl (.cons 2 _ _ _ _ _ (by decide) rfl Tryz.underlying4 rfl (.cons 3 _ _ _ _ _ (by decide) rfl Tryz.underlying6 rfl (.nil 4)))))
theorem aa9:jC Tryz.prog 8 [.int .i64,.int .i64,.bool,.int .u8]:=jC.of Tryz.underlying8 (by kernel_rfl) (by kernel_rfl) (.cons 0 _ _ _ _ _ (by decide) rfl Tryz.underlying2 rfl (.cons 1 _ _ _ _ _ (by decide) rfl Tryz.underlying3 rfl (.cons 2 _ _ _ _ _ (by decide) rfl Tryz.underlying4 rfl (.cons 3 _ _ _ _ _ (by decide) rfl Tryz.underlying6 rfl (.nil 4)))))
theorem V7:jC Tryz.prog 50 [.bool,.str]:=jC.of Tryz.underlying50 (by kernel_rfl) (by kernel_rfl) (.cons 0 _ _ _ _ _ (by decide) rfl Tryz.underlying4 rfl (.cons 1 _ _ _ _ _ (by decide) rfl Tryz.underlying9 rfl (.nil 2)))
theorem V6:jC Tryz.prog 51 [.bool,.str]:=jC.of Tryz.underlying51 (by kernel_rfl) (by kernel_rfl) (.cons 0 _ _ _ _ _ (by decide) rfl Tryz.underlying4 rfl (.cons 1 _ _ _ _ _ (by decide) rfl Tryz.underlying9 rfl (.nil 2)))
theorem Tl:jC Tryz.prog 158 [.bool,.str]:=jC.of Tryz.underlying158 (by kernel_rfl) (by kernel_rfl) (.cons 0 _ _ _ _ _ (by decide) rfl Tryz.underlying4 rfl (.cons 1 _ _ _ _ _ (by decide) rfl Tryz.underlying9 rfl (.nil 2)))
theorem Tk:jC Tryz.prog 159 [.bool,.str]:=jC.of Tryz.underlying159 (by kernel_rfl) (by kernel_rfl) (.cons 0 _ _ _ _ _ (by decide) rfl Tryz.underlying4 rfl (.cons 1 _ _ _ _ _ (by decide) rfl Tryz.underlying9 rfl (.nil 2)))
theorem Tj:jC Tryz.prog 163 [.str,.str]:=jC.of Tryz.underlying163 (by kernel_rfl) (by kernel_rfl) (.cons 0 _ _ _ _ _ (by decide) rfl Tryz.underlying9 rfl (.cons 1 _ _ _ _ _ (by decide) rfl Tryz.underlying9 rfl (.nil 2)))
theorem Ti:jC Tryz.prog 164 [.str,.str]:=jC.of Tryz.underlying164 (by kernel_rfl) (by kernel_rfl) (.cons 0 _ _ _ _ _ (by decide) rfl Tryz.underlying9 rfl (.cons 1 _ _ _ _ _ (by decide) rfl Tryz.underlying9 rfl (.nil 2)))
theorem Th:jC Tryz.prog 220 [.int .i64,.int .i64]:=jC.of Tryz.underlying220 (by kernel_rfl) (by kernel_rfl) (.cons 0 _ _ _ _ _ (by decide) rfl Tryz.underlying64 rfl (.cons 1 _ _ _ _ _ (by decide) rfl Tryz.underlying3 rfl (.nil 2)))
theorem Tg:jC Tryz.prog 221 [.int .i64,.int .i64]:=jC.of Tryz.underlying221 (by kernel_rfl) (by kernel_rfl) (.cons 0 _ _ _ _ _ (by decide) rfl Tryz.underlying64 rfl (.cons 1 _ _ _ _ _ (by decide) rfl Tryz.underlying3 rfl (.nil 2)))
theorem Tf:jC Tryz.prog 226 [.int .i64,.int .i64,.str]:=jC.of Tryz.underlying226 (by kernel_rfl) (by kernel_rfl) (.cons 0 _ _ _ _ _ (by decide) rfl Tryz.underlying3 rfl (.cons 1 _ _ _ _ _ (by decide) rfl Tryz.underlying3 rfl (.cons 2 _ _ _ _ _ (by decide) rfl Tryz.underlying9 rfl (.nil 3))))
theorem Te:jC Tryz.prog 227 [.int .i64,.int .i64,.str]:=jC.of Tryz.underlying227 (by kernel_rfl) (by kernel_rfl) (.cons 0 _ _ _ _ _ (by decide) rfl Tryz.underlying3 rfl (.cons 1 _ _ _ _ _ (by decide) rfl Tryz.underlying3 rfl (.cons 2 _ _ _ _ _ (by decide) rfl Tryz.underlying9 rfl (.nil 3))))
theorem Td:jC Tryz.prog 313 [.int .u8,.int .u8]:=jC.of Tryz.underlying313 (by kernel_rfl) (by kernel_rfl) (.cons 0 _ _ _ _ _ (by decide) rfl Tryz.underlying5 rfl (.cons 1 _ _ _ _ _ (by decide) rfl Tryz.underlying5 rfl (.nil 2)))
theorem Tc:jC Tryz.prog 314 [.int .u8,.int .u8]:=jC.of Tryz.underlying314 (by kernel_rfl) (by kernel_rfl) (.cons 0 _ _ _ _ _ (by decide) rfl Tryz.underlying5 rfl (.cons 1 _ _ _ _ _ (by decide) rfl Tryz.underlying5 rfl (.nil 2)))
theorem Ta:jC Tryz.prog 339 [.str]:=jC.of Tryz.underlying339 (by kernel_rfl) (by kernel_rfl) (.cons 0 _ _ _ _ _ (by decide) rfl Tryz.underlying9 rfl (.nil 1))
theorem S_:jC Tryz.prog 340 [.str]:=jC.of Tryz.underlying340 (by kernel_rfl) (by kernel_rfl) (.cons 0 _ _ _ _ _ (by decide) rfl Tryz.underlying9 rfl (.nil 1))
def Ul:BT (List Kd):=(.node 220 (.node 158 (.node 50 (.node 8 (.leaf 7 [.int .i64,.int .i64,.bool,.int .u8]) (.leaf 8 [.int .i64,.int .i64,.bool,.int .u8])) (.node 51 (.leaf 50 [.bool,.str]) (.leaf 51 [.bool,.str]))) (.node 163 (.node 159 (.leaf 158 [.bool,.str]) (.leaf 159 [.bool,.str])) (.node 164 (.leaf 163 [.str,.str]) (.leaf 164 [.str,.str])))) (.node 313 (.node 226 (.node 221 (.leaf 220 [.int .i64,.int .i64]) (.leaf 221 [.int .i64,.int .i64])) (.node 227 (.leaf 226 [.int .i64,.int .i64,.str]) (.leaf 227 [.int .i64,.int .i64,.str]))) (.node 339 (.node 314 (.leaf 313 [.int .u8,.int .u8]) (.leaf 314 [.int .u8,.int .u8])) (.node 340 (.leaf 339 [.str]) (.leaf 340 [.str])))))
theorem IF:Ul.Ae (jC Tryz.prog):=⟨⟨⟨⟨aba,aa9⟩,⟨V7,V6⟩⟩,⟨⟨Tl,Tk⟩,⟨Tj,Ti⟩⟩⟩,⟨⟨⟨Th,Tg⟩,⟨Tf,Te⟩⟩,⟨⟨Td,Tc⟩,⟨Ta,S_⟩⟩⟩⟩
end Go.Proofs.YtmbikbgdbbcbmaaGreatDoor
end
section
namespace Go.AxS
open Go Go.Ax
theorem CD:∀s,slt s s=false
 | []=>rfl
 |a::s=>by rw[yS];simp[CD s]
theorem Ez:∀s t u,slt s t=true->slt t u=true->slt s u=true
 |_,[],_,h,_=>by cases ‹List Nat› <;> simp[slt]at h
 |_,_::_,[],_,h=>by simp[slt]at h
 | [],b::t,c::u,_,_=>rfl
 |a::s,b::t,c::u,h1,h2=>by
  rw[yS]at h1 h2 ⊢
  simp only[ez,ah,IT]at h1 h2 ⊢
  rcases h1 with h1 | ⟨rfl,h1⟩
  ·rcases h2 with h2 | ⟨rfl,h2⟩
   ·exact .inl (by omega)
   ·exact .inl h1
  ·rcases h2 with h2 | ⟨rfl,h2⟩
   ·exact .inl h2
   ·exact .inr ⟨rfl,Ez s t u h1 h2⟩
theorem EA:∀s t,slt s t=false->slt t s=false->s=t
 | [],[],_,_=>rfl
 | [],_::_,h,_=>by simp[slt]at h
 |_::_,[],_,h=>by simp[slt]at h
 |a::s,b::t,h1,h2=>by
  rw[yS]at h1 h2
  simp only[Bool.or_eq_false_iff,Bool.and_eq_false_iff,decide_eq_false_iff_not]at h1 h2
  have e:a=b:=by omega
  subst e
  rw[EA s t (h1.2.resolve_left (λh=>h rfl)) (h2.2.resolve_left (λh=>h rfl))]
theorem kI:∀s t:List Nat,Ax.seq s t=true ↔ s=t
 | [],[]=>by simp[Ax.seq]
 | [],_::_=>by simp[Ax.seq]
 |_::_,[]=>by simp[Ax.seq]
 |a::s,b::t=>by rw[CF];simp[kI s t]
theorem vY (s t:List Nat):Ax.seq s t=decide (s=t):=by
 rw[dn,kI];simp
abbrev aJ:=Bool × List Nat
def row (x:aJ):List V:=[.bool x.1,.str x.2]
def lt (x y:aJ):Bool:=match x.1,y.1 with
 |false,true=>true
 |true,false=>false
 |_,_=>slt x.2 y.2
theorem Vx (x y:aJ):uY (row x) (row y)=lt x y:=by
 obtain⟨a,s⟩:=x;obtain⟨b,t⟩:=y
 cases a <;> cases b <;> rfl
theorem lt_irrefl (x:aJ):lt x x=false:=by
 obtain⟨a,s⟩:=x
 cases a <;> exact CD s
theorem lt_trans (x y z:aJ)(h1:lt x y=true)(h2:lt y z=true):lt x z=true:=by
 obtain⟨a,s⟩:=x;obtain⟨b,t⟩:=y;obtain⟨c,u⟩:=z
 cases a <;> cases b <;> cases c <;> simp only[lt]at h1 h2 ⊢ <;> first | exact Ez _ _ _ h1 h2 | rfl | exact absurd h1 Bool.false_ne_true | exact absurd h2 Bool.false_ne_true
theorem HY (x y:aJ)(h1:lt x y=false)(h2:lt y x=false):x=y:=by
 obtain⟨a,s⟩:=x;obtain⟨b,t⟩:=y
 cases a <;> cases b <;> simp only[lt]at h1 h2 <;> first | rw[EA _ _ h1 h2] | exact absurd h1.symm Bool.false_ne_true | exact absurd h2.symm Bool.false_ne_true
theorem lt_asymm {x y:aJ}(h:lt x y=true):lt y x=false:=by
 cases hy:lt y x with
 |false=>rfl
 |true=>have:=lt_trans _ _ _ h hy;rw[lt_irrefl]at this;cases this
def Up (l:List aJ):Prop:=l.Pairwise λx y=>lt x y=true
theorem xJ:∀{l m:List aJ},Up l->Up m->(∀x,x∈l ↔ x∈m)->l=m
 | [],[],_,_,_=>rfl
 | [],y::m,_,_,h=>by have:=(h y).2 (IN ..);cases this
 |x::l,[],_,_,h=>by have:=(h x).1 (IN ..);cases this
 |x::l,y::m,h1,h2,h=>by
  rw[Up,jw]at h1 h2
  have e:x=y:=by
   rcases By.1 ((h x).1 (IN ..)) with e | hx
   ·exact e
   rcases By.1 ((h y).2 (IN ..)) with e | hy
   ·exact e.symm
   have:=lt_asymm (h1.1 y hy)
   rw[h2.1 x hx]at this;cases this
  subst e
  rw[xJ h1.2 h2.2 λz=>⟨λhz=>?_,λhz=>?_⟩]
  ·rcases By.1 ((h z).1 (No _ hz)) with rfl | hz'
   ·have:=h1.1 z hz;rw[lt_irrefl]at this;cases this
   ·exact hz'
  ·rcases By.1 ((h z).2 (No _ hz)) with rfl | hz'
   ·have:=h2.1 z hz;rw[lt_irrefl]at this;cases this
   ·exact hz'
theorem Up.nodup {l:List aJ}(h:Up l):l.Nodup:=h.imp λhxy e=>by
 subst e;rw[lt_irrefl]at hxy;cases hxy
def put:List aJ->aJ->List aJ
 | [],x=>[x]
 |y::r,x=>if lt y x=true then y::put r x else if y=x then y::r else x::y::r
theorem sW {x z:aJ}:∀{l:List aJ},z∈put l x ↔ z∈l\/z=x
 | []=>by simp[put]
 |y::r=>by
  simp only[put]
  split
  ·rw[By,sW,By,or_assoc]
  ·split
   ·rename_i e;subst e
    simp only[By]
    constructor
    ·intro h;exact .inl h
    ·rintro (h | rfl)
     ·exact h
     ·exact .inl rfl
   ·simp only[By]
    constructor
    ·rintro (rfl | h)
     ·exact .inr rfl
     ·exact .inl h
    ·rintro (h | rfl)
     ·exact .inr h
     ·exact .inl rfl
theorem CN {x:aJ}:∀{l:List aJ},Up l->Up (put l x)
 | [],_=>by simp[put,Up]
 |y::r,h=>by
  have h0:=h
  rw[Up,jw]at h
  simp only[put]
  split
  ·rename_i hyx
   refine jw.2 ⟨λz hz=>?_,CN h.2⟩
   rcases sW.1 hz with hz | rfl
   ·exact h.1 z hz
   ·exact hyx
  ·rename_i hyx
   split
   ·exact h0
   ·rename_i hne
    have hxy:lt x y=true:=by
     cases hc:lt x y with
     |true=>rfl
     |false=>exact absurd (HY _ _ (by simpa using hyx) hc) hne
    refine jw.2 ⟨λz hz=>?_,h0⟩
    rcases By.1 hz with rfl | hz
    ·exact hxy
    ·exact lt_trans _ _ _ hxy (h.1 z hz)
def setOf (l:List aJ):List aJ:=l.foldl put []
theorem zQ:∀(l acc:List aJ),Up acc->Up (l.foldl put acc)
 | [],_,h=>h
 |_::l,_,h=>zQ l _ (CN h)
theorem w_ {z:aJ}:∀(l acc:List aJ),z∈l.foldl put acc ↔ z∈acc\/z∈l
 | [],acc=>by simp
 |x::l,acc=>by
  rw[lj,w_ l,sW,By,or_assoc]
theorem oZ (l:List aJ):Up (setOf l):=zQ l [] List.Pairwise.nil
theorem jH {l:List aJ}{z:aJ}:z∈setOf l ↔ z∈l:=by
 rw[setOf,w_];simp
theorem Hv {l m:List aJ}(h:∀x,x∈l ↔ x∈m):setOf l=setOf m:=xJ (oZ l) (oZ m) λx=>by rw[jH,jH,h]
theorem Ii (x:aJ):∀{l:List aJ},Up l->x ∉ l->Df uY (row x) (l.map row)=(put l x).map row
 | [],_,_=>rfl
 |y::r,h,hx=>by
  rw[Up,jw]at h
  rw[By,qg]at hx
  simp only[bj,Df,put,Vx]
  cases hxy:lt x y with
  |true=>
   rw[b8 rfl,ay (by rw[lt_asymm hxy];simp),ay (λe=>hx.1 e.symm)]
   rfl
  |false=>
   have hyx:lt y x=true:=by
    cases hc:lt y x with
    |true=>rfl
    |false=>exact absurd (HY _ _ hxy hc) hx.1
   rw[ay (by simp),b8 hyx,Ii x h.2 hx.2]
   rfl
theorem Fc:∀(l acc:List aJ),Up acc->l.Nodup->(∀x∈l,x ∉ acc)->(l.map row).foldl (λacc x=>Df uY x acc) (acc.map row)=(l.foldl put acc).map row
 | [],_,_,_,_=>rfl
 |x::l,acc,h,hn,hd=>by
  rw[dm]at hn
  rw[bj,lj,lj,Ii x h (hd x (IN ..))]
  refine Fc l _ (CN h) hn.2 λz hz hm=>?_
  rcases sW.1 hm with hm | rfl
  ·exact hd z (No _ hz) hm
  ·exact hn.1 hz
theorem MH {l:List aJ}(hn:l.Nodup):lP uY (l.map row)=(setOf l).map row:=Fc l [] List.Pairwise.nil hn λ_ _ h=>by cases h
theorem F5 {l:List aJ}(hn:l.Nodup):(setOf l).length=l.length:=by
 suffices ∀(l acc:List aJ),l.Nodup->(∀x∈l,x ∉ acc)->(l.foldl put acc).length=acc.length+l.length by
  have:=this l [] hn (λ_ _ h=>by cases h)
  simpa [setOf]using this
 intro l
 induction l with
 |nil=>intro acc _ _;simp
 |cons x l ih=>
  intro acc hn hd
  rw[dm]at hn
  have hp:∀{m:List aJ},x ∉ m->(put m x).length=m.length+1:=by
   intro m
   induction m with
   |nil=>intro _;rfl
   |cons y r ihr=>
    intro hx
    rw[By,qg]at hx
    simp only[put]
    split
    ·simp[ihr hx.2]
    ·rw[ay (λe=>hx.1 e.symm)];simp
  rw[lj,ih _ hn.2,hp (hd x (IN ..)),aa]
  ·omega
  ·intro z hz hm
   rcases sW.1 hm with hm | rfl
   ·exact hd z (No _ hz) hm
   ·exact hn.1 hz
def kD (l:List aJ) (x:aJ):List aJ:=if x∈l then l else l++[x]
def keys (l:List aJ) (xs:List aJ):List aJ:=xs.foldl kD l
theorem E0 {l:List aJ}{x z:aJ}:z∈kD l x ↔ z∈l\/z=x:=by
 unfold kD
 split
 ·rename_i h
  constructor
  ·exact .inl
  ·rintro (h' | rfl)
   ·exact h'
   ·exact h
 ·simp
theorem Ia {l:List aJ}{x:aJ}(h:l.Nodup):(kD l x).Nodup:=by
 unfold kD
 split
 ·exact h
 ·rename_i hx
  rw[l6]
  refine⟨h,by simp,?_⟩
  intro a ha b hb e
  rw[dc]at hb
  subst hb;subst e
  exact hx ha
theorem mem_keys {z:aJ}:∀{xs l:List aJ},z∈keys l xs ↔ z∈l\/z∈xs
 | [],l=>by simp[keys]
 |x::xs,l=>by
  show z∈keys (kD l x) xs ↔ _
  rw[mem_keys,E0,By,or_assoc]
theorem qI:∀{xs l:List aJ},(keys l xs).length<=l.length+xs.length
 | [],l=>by simp[keys]
 |x::xs,l=>by
  show (keys (kD l x) xs).length<=_
  have:=qI (xs:=xs) (l:=kD l x)
  have h2:(kD l x).length<=l.length+1:=by unfold kD;split <;> simp
  simp only[aa]
  omega
end Go.AxS
end
section
namespace Go.AxS
open Go
abbrev bD:=List Nat
structure Step where
 out:bD
 op:Int
 args:List bD
 lits:List bD
 n:Int
structure aD where
 name:bD
 ins:List bD
 outs:List bD
 after:List bD
 steps:List Step
def sign (c:Nat):Bool:=(decide (97<=c)&&decide (c<=122))||((decide (65<=c)&&decide (c<=90))||((decide (48<=c)&&decide (c<=57))||(decide (c=46)||(decide (c=95)||decide (c=45)))))
def sO (p:bD):Bool:=!(decide (p=[])||decide (p=[46])||decide (p=[46,46]))&&p.all sign
def pD (s:bD):Bool:=decide (s=[114,117,108,101])||(decide (s=[105,110])||(decide (s=[111,117,116])||decide (s=[97,102,116,101,114])))
def bL (s:bD):Bool:=!pD s&&decide (s.length<=40)&&(Ax.cO 47 s).all sO
def counts (op:Int):Nat × Nat × Nat:=if op=5 then (0,6,0) else if op=6 then (0,0,1) else if op=7 then (1,1,1) else if op=8 then (1,1,2) else (1,1,0)
def cJ (s:Step):Bool:=decide (1<=s.op/\s.op<=9)&&decide ((counts s.op).1<=s.args.length/\s.args.length<=(counts s.op).2.1)&&decide (s.lits.length=(counts s.op).2.2)&&s.lits.all (λl=>decide (l.length<=100))
 && decide (s.op=8->s.lits.head?≠some [])&&decide (0<=s.n/\s.n<=2000)&&decide (s.op=9\/s.n=0)
def kZ:List bD->Bool
 | []=>false
 |s::l=>decide (s∈l)||kZ l
def kW (r:aD):Bool:=bL r.name&&decide (r.outs≠[])&&r.ins.all bL&&r.outs.all bL&&r.after.all bL&&r.steps.all λs=>bL s.out&&s.args.all bL&&cJ s
def long (r:aD):Bool:=decide (8<r.ins.length)||decide (4<r.outs.length)||decide (8<r.after.length)||decide (12<r.steps.length)
def iM:List bD->List Step->Bool
 |_,[]=>true
 |known,s::l=>!decide (s.out∈known)&&s.args.all (λa=>decide (a∈known))&&iM (known++[s.out]) l
def fV (r:aD):Bool:=!kZ r.ins && !kZ r.outs && !kZ r.after && !decide (r.name∈r.after)&&r.outs.all (λo=>!decide (o∈r.ins))&&iM r.ins r.steps&&r.outs.all λo=>decide (o∈r.ins++r.steps.map Step.out)
def bE (r:aD):Int:=if kW r=false then 1 else if long r=true then 4 else if fV r=false then 2 else 0
def bN {α:Type} (p:α->Bool):List α->Option Nat
 | []=>none
 |x::l=>if p x=true then some 0 else (bN p l).map (· + 1)
def c_ (rs:List aD) (f:bD):Option Nat:=bN (λr=>decide (f∈r.outs)) rs
def fF (rs:List aD) (n:bD):Option Nat:=bN (λr=>decide (r.name=n)) rs
def zI (rs:List aD) (data:Bool) (r:aD) (k:Nat):Bool:=r.ins.any (λf=>decide (c_ rs f=some k))||(!data&&r.after.any λn=>decide (fF rs n=some k))
def jU (rs:List aD) (data:Bool) (i k:Nat):Bool:=match rs[i]? with
 |some r=>zI rs data r k
 |none=>false
inductive Way (m:Nat->Nat->Bool):Nat->Nat->Prop
 |one {i k}:m i k=true->Way m i k
 |cons {i j k}:m i j=true->Way m j k->Way m i k
theorem Way.trans {m:Nat->Nat->Bool}{i j k:Nat}(h:Way m i j) (g:Way m j k):Way m i k:=by
 induction h with
 |one h=>exact .cons h g
 |cons h _ ih=>exact .cons h (ih g)
def oK (rs:List aD) (i:Nat):Bool:=match rs[i]? with
 |some r=>(rs.take i).any λq=>decide (q.name=r.name)||r.outs.any λo=>decide (o∈q.outs)
 |none=>false
def tK (rs:List aD):Bool:=(List.range rs.length).any (oK rs)
def gY (rs:List aD):Bool:=rs.any λr=>r.after.any λn=>decide (fF rs n=none)
def gU (rs:List aD):Int:=match rs.find? λr=>decide (bE r≠0) with
 |some r=>bE r
 |none=>if 40<rs.length then 4 else if tK rs=true then 2 else if gY rs=true then 2 else 0
def Ring (rs:List aD):Prop:=∃i,i<rs.length/\Way (jU rs false) i i
def Jb (rs:List aD) (e:Int):Prop:=(gU rs≠0/\e=gU rs)\/(gU rs=0/\((Ring rs/\e=3)\/(¬ Ring rs/\e=0)))
def nN (rs:List aD):Prop:=gU rs=0/\¬ Ring rs
theorem Jb.zero {rs:List aD}{e:Int}(h:Jb rs e):e=0 ↔ nN rs:=by
 unfold nN
 rcases h with⟨h1,h2⟩ | ⟨h1,⟨h2,h3⟩ | ⟨h2,h3⟩⟩
 ·exact⟨λg=>absurd (h2.symm.trans g) h1,λg=>absurd g.1 h1⟩
 ·exact⟨λg=>by omega,λg=>absurd h2 g.2⟩
 ·exact⟨λ_=>⟨h1,h2⟩,λ_=>h3⟩
end Go.AxS
end
section
namespace Go.Ax
theorem pJ {α:Type} [DecidableEq α]:∀{a b:List α},a.Nodup->(∀x∈a,x∈b)->a.length<=b.length
 | [],b,_,_=>gz _
 |x::a,b,hn,h=>by
  obtain⟨hx,ha⟩:=dm.1 hn
  have hm:x∈b:=h x (IN ..)
  have:=pJ (b:=b.erase x) ha λy hy=>by
   have hne:y≠x:=λe=>hx (e ▸ hy)
   exact (List.mem_erase_of_ne hne).2 (h y (No _ hy))
  rw[List.length_erase_of_mem hm]at this
  have:0<b.length:=List.length_pos_of_mem hm
  rw[aa];omega
end Go.Ax
namespace Go.AxS
open Go
def wk (m:Nat->Nat->Bool):Nat->Nat->Nat->Bool
 |0,i,j=>m i j
 |k+1,i,j=>wk m k i j||(wk m k i k&&wk m k k j)
theorem Oe {m:Nat->Nat->Bool} (k j:Nat):wk m (k+1) k j=wk m k k j:=by
 rw[wk];cases wk m k k j <;> simp
theorem Of {m:Nat->Nat->Bool} (k i:Nat):wk m (k+1) i k=wk m k i k:=by
 rw[wk];cases wk m k i k <;> simp
theorem FP {m : Nat -> Nat -> Bool} {i j : Nat} : ∀ {k l : Nat}, k <= l -> wk m k i j = true -> wk m l i j = true
  | k, 0, h, e => by obtain rfl : k = 0 := by omega
                     exact e
  | k, l + 1, h, e => by
    rcases cj l k with g | g
    · obtain rfl : k = l + 1 := by omega
      exact e
    · rw [wk, FP g e]; rfl
theorem yN {m:Nat->Nat->Bool}:∀(k i j l:Nat),j<k->wk m k i j=true->wk m k j l=true->wk m k i l=true
 |0,_,_,_,h,_,_=>absurd h (by omega)
 |k+1,i,j,l,h,a,b=>by
  by_cases hj:j=k
  ·subst hj
   rw[Of]at a
   rw[Oe]at b
   rw[wk,a,b];simp
  ·have hj:j<k:=by omega
   rw[wk,ez,ah]at a b ⊢
   rcases a with a | ⟨a1,a2⟩ <;> rcases b with b | ⟨b1,b2⟩
   ·exact .inl (yN k i j l hj a b)
   ·exact .inr ⟨yN k i j k hj a b1,b2⟩
   ·exact .inr ⟨a1,yN k k j l hj a2 b⟩
   ·exact .inr ⟨a1,b2⟩
theorem Cj {m:Nat->Nat->Bool}:∀{k i j:Nat},wk m k i j=true->Way m i j
 |0,_,_,h=>.one h
 |k+1,i,j,h=>by
  rw[wk,ez,ah]at h
  rcases h with h | ⟨h1,h2⟩
  ·exact Cj h
  ·exact (Cj h1).trans (Cj h2)
theorem UA {m:Nat->Nat->Bool}{n:Nat}(hm:∀i j,m i j=true->i<n/\j<n) {i j:Nat}(h:Way m i j):wk m n i j=true:=by
 induction h with
 |one h=>exact FP (gz n) h
 |cons h _ ih=>exact yN n _ _ _ (hm _ _ h).2 (FP (gz n) h) ih
theorem Way.step {m:Nat->Nat->Bool}{i j:Nat}(h:Way m i j):∃k,m i k=true/\(k=j\/Way m k j):=by
 cases h with
 |one h=>exact⟨_,h,.inl rfl⟩
 |cons h g=>exact⟨_,h,.inr g⟩
def eS (bR:List Int) (i:Nat):Int:=(bR[i]?).getD (-1)
theorem mG {bR:List Int}{i j:Nat}{d:Int}(hi:i<bR.length):eS (bR.set i d) j=if j=i then d else eS bR j:=by
 unfold eS
 by_cases h:j=i
 ·subst h
  rw[b8 rfl,bp hi];rfl
 ·rw[ay h,OF (λe=>h e.symm)]
structure mN (m:Nat->Nat->Bool) (n first d i k:Nat) (bR:List Int):Prop where
 len:bR.length=n
 MS:∀j,j<n->eS bR j = -1\/(0<=eS bR j/\eS bR j<=(d:Int)/\(i<j->eS bR j<(d:Int)))
 zero:∀j,j<n->(eS bR j=0 ↔ j=first)
 down:∀j (e:Nat),j<n->eS bR j=(e:Int)+1->∃l,l<n/\m j l=true/\eS bR l=(e:Int)
 old:∀j l,j<n->l<n->m j l=true->0<=eS bR l->eS bR l+1<(d:Int)->0<=eS bR j
 now:∀j l,j<i->j<n->l<n->m j l=true->eS bR l+1=(d:Int)->0<=eS bR j
 row:∀l,l<k->i<n->l<n->m i l=true->eS bR l+1=(d:Int)->0<=eS bR i
theorem mN.init {m:Nat->Nat->Bool}{n first:Nat}(hf:first<n):mN m n first 1 0 0 ((List.replicate n (-1)).set first 0):=by
 have hl:first<(List.replicate n (-1:Int)).length:=by simpa using hf
 have hg:∀j,j<n->eS ((List.replicate n (-1)).set first 0) j=if j=first then 0 else -1:=λj hj=>by
  rw[mG hl]
  split
  ·rfl
  ·unfold eS;simp[hj]
 refine⟨by simp,λj hj=>?_,λj hj=>?_,λj e hj h=>?_,λj l hj hl hm h1 h2=>?_,λj l hj=>?_,λl hl=>?_⟩
 ·rw[hg j hj];split
  ·exact .inr ⟨by omega,by omega,λ_=>by omega⟩
  ·exact .inl rfl
 ·rw[hg j hj];split
  ·rename_i h;exact⟨λ_=>h,λ_=>rfl⟩
  ·rename_i h;exact⟨λg=>absurd g (by omega),λg=>absurd g h⟩
 ·rw[hg j hj]at h;split at h <;> omega
 ·omega
 ·omega
 ·omega
theorem mN.skip {m:Nat->Nat->Bool}{n first d i k:Nat}{bR:List Int}(h:mN m n first d i k bR)(hne:¬ (m i k=true/\eS bR k=(d:Int)-1)):mN m n first d i (k+1) bR:=by
 refine⟨h.len,h.MS,h.zero,h.down,h.old,h.now,λl hl hi hln hm e=>?_⟩
 rcases cj l k with g | g
 ·exact h.row l g hi hln hm e
 ·obtain rfl:l=k:=by omega
  exact absurd ⟨hm,by omega⟩ hne
theorem mN.put {m:Nat->Nat->Bool}{n first d i k:Nat}{bR:List Int}(h:mN m n first d i k bR)(hi:i<n)(hk:k<n)(hd:1<=d)(hf:eS bR i<0)(hm:m i k=true)(he:eS bR k=(d:Int)-1) :
  mN m n first d i (k+1) (bR.set i (d:Int)):=by
 have hl:i<bR.length:=by rw[h.len];exact hi
 have hi1:eS bR i = -1:=by rcases h.MS i hi with g | ⟨g,_⟩ <;> omega
 have hki:k≠i:=λe=>by subst e;omega
 refine⟨by rw[fc];exact h.len,λj hj=>?_,λj hj=>?_,λj e hj g=>?_,λj l hj hl2 hm2 h1 h2=>?_,λj l hji hj hl2 hm2 h1=>?_,λl hlk hi2 hl2 hm2 h1=>?_⟩
 ·rw[mG hl];split
  ·rename_i e;subst e;exact .inr ⟨by omega,by omega,λg=>by omega⟩
  ·exact h.MS j hj
 ·rw[mG hl];split
  ·rename_i e;subst e
   constructor
   ·intro g;omega
   ·intro g;have:=(h.zero j hj).2 g;omega
  ·exact h.zero j hj
 ·rw[mG hl]at g;split at g
  ·rename_i e2;subst e2
   exact⟨k,hk,hm,by rw[mG hl,ay hki];omega⟩
  ·obtain⟨l,h1,h2,h3⟩:=h.down j e hj g
   refine⟨l,h1,h2,?_⟩
   rw[mG hl,ay]
   ·exact h3
   ·intro e2;subst e2;omega
 ·rw[mG hl]at h1 h2 ⊢
  split
  ·omega
  ·split at h1
   ·rename_i e2;rw[b8 e2]at h2;omega
   ·rename_i e2;rw[ay e2]at h2;exact h.old j l hj hl2 hm2 h1 h2
 ·rw[mG hl]at h1 ⊢
  split
  ·omega
  ·split at h1
   ·omega
   ·exact h.now j l hji hj hl2 hm2 h1
 ·rw[mG hl,b8 rfl];omega
theorem mN.next {m:Nat->Nat->Bool}{n first d i k:Nat}{bR:List Int}(h:mN m n first d i k bR)(hk:k=n\/0<=eS bR i)(hi:i<n):mN m n first d (i+1) 0 bR:=by
 refine⟨h.len,λj hj=>?_,h.zero,h.down,h.old,λj l hj hjn hl hm e=>?_,λl hl=>by omega⟩
 ·rcases h.MS j hj with g | ⟨g1,g2,g3⟩
  ·exact .inl g
  ·exact .inr ⟨g1,g2,λg=>g3 (by omega)⟩
 ·rcases cj j i with g | g
  ·exact h.now j l g hjn hl hm e
  ·obtain rfl:j=i:=by omega
   rcases hk with rfl | hk
   ·exact h.row l hl hjn hl hm e
   ·exact hk
theorem mN.round {m:Nat->Nat->Bool}{n first d:Nat}{bR:List Int}(h:mN m n first d n 0 bR):mN m n first (d+1) 0 0 bR:=by
 refine⟨h.len,λj hj=>?_,h.zero,h.down,λj l hj hl hm h1 h2=>?_,λj l hj=>by omega,λl hl=>by omega⟩
 ·rcases h.MS j hj with g | ⟨g1,g2,_⟩
  ·exact .inl g
  ·exact .inr ⟨g1,by omega,λ_=>by omega⟩
 ·rcases cj ((eS bR l+1).toNat) d with g | g
  ·exact h.old j l hj hl hm h1 (by omega)
  ·exact h.now j l hj hj hl hm (by omega)
theorem mN.small {m:Nat->Nat->Bool}{n first d:Nat}{bR:List Int}(h:mN m n first d 0 0 bR) {j:Nat}(hj:j<n):eS bR j<(n:Int):=by
 have chain:∀(e:Nat) (j:Nat),j<n->eS bR j=(e:Int)->∃l:List Nat,l.length=e+1/\l.Nodup/\∀x∈l,x<n/\0<=eS bR x/\eS bR x<=(e:Int):=by
  intro e
  induction e with
  |zero=>intro j hj he;exact⟨[j],rfl,by simp,λx hx=>by simp at hx;subst hx;exact⟨hj,by omega,by omega⟩⟩
  |succ e ih=>
   intro j hj he
   obtain⟨k,hk,_,hk2⟩:=h.down j e hj (by omega)
   obtain⟨l,h1,h2,h3⟩:=ih k hk hk2
   refine⟨j::l,by simp[h1],dm.2 ⟨λhm=>?_,h2⟩,λx hx=>?_⟩
   ·have:=(h3 j hm).2.2;omega
   ·rcases By.1 hx with rfl | hx
    ·exact⟨hj,by omega,by omega⟩
    ·obtain⟨a,b,c⟩:=h3 x hx;exact⟨a,b,by omega⟩
 rcases h.MS j hj with g | ⟨g,_⟩
 ·omega
 ·obtain⟨l,h1,h2,h3⟩:=chain (eS bR j).toNat j hj (by omega)
  have:l.length<=(List.range n).length:=Ax.pJ h2 λx hx=>js.2 (h3 x hx).1
  rw[l7]at this
  omega
theorem mN.closed {m:Nat->Nat->Bool}{n first:Nat}{bR:List Int}(h:mN m n first (n+1) 0 0 bR) {j l:Nat}(hj:j<n)(hl:l<n)(hm:m j l=true)(hf:0<=eS bR l):0<=eS bR j:=
 h.old j l hj hl hm hf (by have:=h.small hl;omega)
theorem mN.way {m:Nat->Nat->Bool}{n first:Nat}{bR:List Int}(hmn:∀i j,m i j=true->i<n/\j<n)(h:mN m n first (n+1) 0 0 bR)(hf:first<n) {j:Nat}(hw:Way m j first):0<=eS bR j:=by
 have h0:eS bR first=0:=(h.zero first hf).2 rfl
 have:∀i j,Way m i j->j=first->0<=eS bR i:=by
  intro i j hw
  induction hw with
  |one g=>intro e;subst e;exact h.closed (hmn _ _ g).1 hf g (by omega)
  |cons g _ ih=>intro e;exact h.closed (hmn _ _ g).1 (hmn _ _ g).2 g (ih e)
 exact this j first hw rfl
theorem mN.first {m:Nat->Nat->Bool}{n first:Nat}{bR:List Int}(hmn:∀i j,m i j=true->i<n/\j<n)(h:mN m n first (n+1) 0 0 bR)(hf:first<n)(hw:Way m first first):∃k,k<n/\m first k=true/\0<=eS bR k:=by
 obtain⟨k,hk,e | g⟩:=hw.step
 ·subst e;exact⟨k,hf,hk,by rw[(h.zero k hf).2 rfl];omega⟩
 ·exact⟨k,(hmn _ _ hk).2,hk,h.way hmn hf g⟩
end Go.AxS
end
section
namespace Go.Ax
open Go
def pQ (t:Nat):List V->Sg->Option (V × Sg)
 | [.aB],Z=>some (.gB [],Z)
 | [.sl b 0 len _],Z=>match Z[b]? with
  |some (.cells u cs ex)=>match Nat.beq u t,Nat.beq len cs.length,allRows kU (cs.map λv=>[v]),Nat.ble len 1000000 with
   |true,true,true,true=>some (.gB [],Z.set b (.cells u (lP strLt (cs.map λv=>[v])).flatten ex))
   |_,_,_,_=>none
  |_=>none
 |_,_=>none
end Go.Ax
end
section
namespace Go.Proofs.YtmbikbgdbbcbmaaGreatDoor
open Go Go.Ax
def Si:BT Ax.Mode:=(.node 221 (.node 133 (.node 91 (.node 72 (.node 60 (.node 59 (.leaf 15 Ax.Mode.shared) (.leaf 59 Ax.Mode.move)) (.node 65 (.leaf 60 Ax.Mode.shared) (.node 70 (.leaf 65 Ax.Mode.shared) (.leaf 70 Ax.Mode.shared)))) (.node 79 (.node 74 (.leaf 72 Ax.Mode.shared) (.leaf 74 Ax.Mode.shared)) (.node 89 (.leaf 79 Ax.Mode.shared) (.node 90 (.leaf 89 Ax.Mode.shared) (.leaf 90 Ax.Mode.shared))))) (.node 117 (.node 106 (.node 95 (.leaf 91 Ax.Mode.shared) (.leaf 95 Ax.Mode.shared)) (.node 107 (.leaf 106 Ax.Mode.shared) (.node 114 (.leaf 107 Ax.Mode.shared) (.leaf 114 Ax.Mode.shared)))) (.node 122 (.node 121 (.leaf 117 Ax.Mode.shared) (.leaf 121 Ax.Mode.shared)) (.node 123 (.leaf 122 Ax.Mode.shared) (.node 131 (.leaf 123 Ax.Mode.shared) (.leaf 131 Ax.Mode.shared)))))) (.node 167 (.node 161 (.node 153 (.node 141 (.leaf 133 Ax.Mode.shared) (.leaf 141 Ax.Mode.shared)) (.node 154 (.leaf 153 Ax.Mode.shared) (.node 160 (.leaf 154 Ax.Mode.shared) (.leaf 160 Ax.Mode.shared)))) (.node 163 (.node 162 (.leaf 161 Ax.Mode.shared) (.leaf 162 Ax.Mode.shared)) (.node 164 (.leaf 163 Ax.Mode.shared) (.node 165 (.leaf 164 Ax.Mode.shared) (.leaf 165 Ax.Mode.shared))))) (.node 190 (.node 175 (.node 168 (.leaf 167 Ax.Mode.shared) (.leaf 168 Ax.Mode.shared)) (.node 176 (.leaf 175 Ax.Mode.shared) (.node 188 (.leaf 176 Ax.Mode.shared) (.leaf 188 Ax.Mode.shared)))) (.node 194 (.node 191 (.leaf 190 Ax.Mode.shared) (.node 193 (.leaf 191 Ax.Mode.shared) (.leaf 193 Ax.Mode.shared))) (.node 195 (.leaf 194 Ax.Mode.shared) (.node 220 (.leaf 195 Ax.Mode.shared) (.leaf 220 Ax.Mode.shared))))))) (.node 271 (.node 241 (.node 226 (.node 223 (.node 222 (.leaf 221 Ax.Mode.shared) (.leaf 222 Ax.Mode.shared)) (.node 224 (.leaf 223 Ax.Mode.shared) (.node 225 (.leaf 224 Ax.Mode.shared) (.leaf 225 Ax.Mode.shared)))) (.node 228 (.node 227 (.leaf 226 Ax.Mode.shared) (.leaf 227 Ax.Mode.shared)) (.node 230 (.leaf 228 Ax.Mode.shared) (.node 240 (.leaf 230 Ax.Mode.shared) (.leaf 240 Ax.Mode.shared))))) (.node 258 (.node 255 (.node 248 (.leaf 241 Ax.Mode.shared) (.leaf 248 Ax.Mode.shared)) (.node 256 (.leaf 255 Ax.Mode.shared) (.node 257 (.leaf 256 Ax.Mode.shared) (.leaf 257 Ax.Mode.shared)))) (.node 260 (.node 259 (.leaf 258 Ax.Mode.shared) (.leaf 259 Ax.Mode.shared)) (.node 262 (.leaf 260 Ax.Mode.shared) (.node 270 (.leaf 262 Ax.Mode.shared) (.leaf 270 Ax.Mode.shared)))))) (.node 304 (.node 291 (.node 273 (.node 272 (.leaf 271 Ax.Mode.shared) (.leaf 272 Ax.Mode.shared)) (.node 274 (.leaf 273 Ax.Mode.shared) (.node 275 (.leaf 274 Ax.Mode.shared) (.leaf 275 Ax.Mode.shared)))) (.node 297 (.node 296 (.leaf 291 Ax.Mode.shared) (.leaf 296 Ax.Mode.shared)) (.node 299 (.leaf 297 Ax.Mode.shared) (.node 303 (.leaf 299 Ax.Mode.shared) (.leaf 303 Ax.Mode.shared))))) (.node 312 (.node 306 (.node 305 (.leaf 304 Ax.Mode.shared) (.leaf 305 Ax.Mode.shared)) (.node 307 (.leaf 306 Ax.Mode.shared) (.node 311 (.leaf 307 Ax.Mode.shared) (.leaf 311 Ax.Mode.shared)))) (.node 327 (.node 313 (.leaf 312 Ax.Mode.shared) (.node 323 (.leaf 313 Ax.Mode.shared) (.leaf 323 Ax.Mode.shared))) (.node 328 (.leaf 327 Ax.Mode.shared) (.node 339 (.leaf 328 Ax.Mode.shared) (.leaf 339 Ax.Mode.shared))))))))
def Qk:BT (List V->Sg->Option (V × Sg)):=(.node 125 (.node 94 (.leaf 79 (pQ 9)) (.node 116 (.leaf 94 (tA 9 [131,327] [260])) (.leaf 116 (mZ 51 [154] [] 118)))) (.node 318 (.leaf 125 LU) (.node 320 (.leaf 318 B6) (.leaf 320 (LR 5)))))
noncomputable def ground:Ax.Ground Tryz.prog:={ ty:=Ol,fn:=L2,mode:=Si,hspec:=Qk,eqs:=Ul,gl:=E9,DY:=λt=>Nat.beq t 267 }
noncomputable def sp0:BT (List V->Option V):=(.node 267 (.node 185 (.leaf 159 nR) (.leaf 185 kH)) (.node 308 (.leaf 267 jD) (.leaf 308 vV)))
def GW:List V:=[.str [122],.int .i64 5,.bT false [[.str [121]]] true,.aB,.int .i64 0]
def Jg:List (List V):=[GW]
def Oa:List V:=[.str [99],.bT false [[.str [121]]] true,.bT false [[.str [122]]] true,.bT false [[.str [97]]] true,.bT false Jg true]
def q19:List V:=[.str [120],.int .i64 5,.bT false [[.str [115]]] true,.aB,.int .i64 0]
def q20:List (List V):=[q19]
def q21:List V:=[.str [97],.bT false [[.str [115]]] true,.bT false [[.str [120]]] true,.aB,.bT false q20 true]
def q23:List V:=[.str [121],.int .i64 5,.bT false [[.str [120]]] true,.aB,.int .i64 0]
def q24:List (List V):=[q23]
def q25:List V:=[.str [98],.bT false [[.str [120]]] true,.bT false [[.str [121]]] true,.aB,.bT false q24 true]
def Jf:List (List V):=[Oa,q21,q25]
def Yl:List V:=[.str [122],.int .i64 5,.bT false [[.str [121]]] false,.aB,.int .i64 0]
def Yk:List (List V):=[Yl]
def q29:List V:=[.str [99],.bT false [[.str [121]]] false,.bT false [[.str [122]]] false,.bT false [[.str [97]]] false,.bT false Yk false]
def q30:List V:=[.str [120],.int .i64 5,.bT false [[.str [115]]] false,.aB,.int .i64 0]
def q31:List (List V):=[q30]
def q32:List V:=[.str [97],.bT false [[.str [115]]] false,.bT false [[.str [120]]] false,.aB,.bT false q31 false]
def q33:List V:=[.str [121],.int .i64 5,.bT false [[.str [120]]] false,.aB,.int .i64 0]
def q34:List (List V):=[q33]
def q35:List V:=[.str [98],.bT false [[.str [120]]] false,.bT false [[.str [121]]] false,.aB,.bT false q34 false]
def q36:List (V × V):=[(.str [99],.agg q29),(.str [97],.agg q32),(.str [98],.agg q35)]
def q37:List (V × V):=[(.str [122],.str [99]),(.str [120],.str [97]),(.str [121],.str [98])]
def q45:List (V × V):=[(.agg [.bool true,.str [99]],.bool true),(.agg [.bool false,.str [121]],.bool true),(.agg [.bool false,.str [122]],.bool true),(.agg [.bool true,.str [97]],.bool true),(.agg [.bool false,.str [115]],.bool true),(.agg [.bool false,.str [120]],.bool true),(.agg [.bool true,.str [98]],.bool true)]
def q46:List V:=[.imp false q45]
def q48:List V:=[.imp false [(.agg [.bool false,.str [121]],.bool true)]]
def q50:List V:=[.imp false [(.agg [.bool true,.str [99]],.bool true)]]
def q52:List V:=[.imp false [(.agg [.bool false,.str [115]],.bool true)]]
def q54:List V:=[.imp false [(.agg [.bool true,.str [97]],.bool true)]]
def q56:List V:=[.imp false [(.agg [.bool false,.str [120]],.bool true)]]
def q58:List V:=[.imp false [(.agg [.bool true,.str [98]],.bool true)]]
def q59:List (V × V):=[(.agg [.bool true,.str [99]],.dH false q48),(.agg [.bool false,.str [122]],.dH false q50),(.agg [.bool true,.str [97]],.dH false q52),(.agg [.bool false,.str [120]],.dH false q54),(.agg [.bool true,.str [98]],.dH false q56),(.agg [.bool false,.str [121]],.dH false q58)]
def q61:List V:=[.imp false [(.agg [.bool false,.str [122]],.bool true)]]
def q62:List (V × V):=[(.agg [.bool false,.str [121]],.dH false q50),(.agg [.bool true,.str [99]],.dH false q61),(.agg [.bool false,.str [115]],.dH false q54),(.agg [.bool true,.str [97]],.dH false q56),(.agg [.bool false,.str [120]],.dH false q58),(.agg [.bool true,.str [98]],.dH false q48)]
def Ue:List V:=[.imp false q36,.imp false q37,.dH false q46,.imp false q59,.imp false q62]
def q71:List V:=[.str [116],.int .i64 3,.bT true [[.str [97]]] true,.aB,.int .i64 0]
def q74:List V:=[.str [120],.int .i64 4,.bT true [[.str [116]]] true,.aB,.int .i64 0]
def q76:List V:=[.str [121],.int .i64 2,.bT true [[.str [98]]] true,.aB,.int .i64 0]
def q77:List (List V):=[q71,q74,q76]
def WN:List V:=[.str [114],.bT true [[.str [97]],[.str [98]]] true,.bT true [[.str [120]],[.str [121]]] true,.aB,.bT true q77 true]
def Yj:List (List V):=[WN]
def q80:List V:=[.str [97],.int .i64 1,.bT true [[.str [120]]] true,.aB,.int .i64 0]
def q81:List (List V):=[q80]
def q82:List V:=[.str [115],.bT true [[.str [120]]] true,.bT true [[.str [97]]] true,.aB,.bT true q81 true]
def q83:List (List V):=[q82,WN]
def q93:List (V × V):=[(.str [99],.bT false [[.str [97]],[.str [98]]] false),(.str [97],.aB),(.str [98],.bT false [[.str [97]]] false)]
def Yr:List (List V):=[[.bool true,.str [50,10]],[.bool false,.str []]]
def Yq:List (List V):=[[.bool false,.str []],[.bool true,.str [122]]]
def Yp:List Nat:=[114,117,108,101,32,114,32,123,32,105,110,32,98,44,32,97,59,32,111,117,116,32,120,59,32,35,32,110,111,10,32,120,32,61,32,115,101,108,101,99,116,32,34,113,92,110,34,32,97,59,32,125]
def Yo:List V:=[.int .i64 1,.int .i64 0,.str [114,117,108,101]]
def q171:List V:=[.str [120],.int .i64 7,.bT false [[.str [97]]] true,.bT false [[.str [113,10]]] true,.int .i64 0]
def q172:List (List V):=[q171]
def q173:List V:=[.str [114],.bT false [[.str [98]],[.str [97]]] false,.bT false [[.str [120]]] true,.aB,.bT false q172 false]
def Yn:List (List V):=[q173]
def Pq:List V:=[.dH false Ue]
def q188:List (V × V):=[(.str [97],.bool true),(.str [98],.bool true)]
def Ym:List (V × V):=[(.str [97],.imp false []),(.str [98],.imp false [(.str [97],.bool true)]),(.str [99],.imp false q188)]
def t266:List (List V × V):=[([.int .i32 99],.bool true),([.int .i32 121],.bool true),([.int .i32 122],.bool true),([.int .i32 97],.bool true),([.int .i32 115],.bool true),([.int .i32 120],.bool true),([.int .i32 98],.bool true),([.int .i32 114],.bool true),([.int .i32 116],.bool true),([.int .i32 46],.bool true)]
noncomputable def Uc:=sp0.put 266 (bM t266)
def t237:List (List V × V):=[([.str [99]],.bool false),([.str [121]],.bool false),([.str [122]],.bool false),([.str [97]],.bool false),([.str [115]],.bool false),([.str [120]],.bool false),([.str [98]],.bool false),([.str [114]],.bool false),([.str [116]],.bool false),([.str [98,46,99]],.bool false),([.str []],.bool true)]
noncomputable def JC:=Uc.put 237 (bM t237)
def t199:List (List V × V):=[([.str [99]],.bool true),([.str [121]],.bool true),([.str [122]],.bool true),([.str [97]],.bool true),([.str [115]],.bool true),([.str [120]],.bool true),([.str [98]],.bool true),([.str [114]],.bool true),([.str [116]],.bool true),([.str [105,110]],.bool false),([.str [97,47,99]],.bool true),([.str [97,47,98,46,99]],.bool true),([.str [97,47,47,98]],.bool false),([.str [114,117,108,101]],.bool false)]
noncomputable def Jd:=JC.put 199 (bM t199)
def t212:List (List V × V):=[([.str [99]],.bool false),([.str [121]],.bool false),([.str [122]],.bool false),([.str [97]],.bool false),([.str [115]],.bool false),([.str [120]],.bool false),([.str [98]],.bool false),([.str [114]],.bool false),([.str [116]],.bool false)]
noncomputable def sp4:=Jd.put 212 (bM t212)
def t150:List (List V × V):=[([.agg GW],.bool true),([.agg q19],.bool true),([.agg q23],.bool true),([.agg q71],.bool true),([.agg q74],.bool true),([.agg q76],.bool true),([.agg q80],.bool true)]
noncomputable def sp5:=sp4.put 150 (bM t150)
def t215:List (List V × V):=[([.bT false [[.str [121]]] true],.bool false),([.bT false [[.str [122]]] true],.bool false),([.bT false [[.str [97]]] true],.bool false),([.bT false [[.str [115]]] true],.bool false),([.bT false [[.str [120]]] true],.bool false),([.aB],.bool false),([.bT true [[.str [97]],[.str [98]]] true],.bool false),([.bT true [[.str [120]],[.str [121]]] true],.bool false),([.bT true [[.str [120]]] true],.bool false),([.bT true [[.str [97]]] true],.bool false)]
noncomputable def sp6:=sp5.put 215 (bM t215)
def t149:List (List V × V):=[([.agg Oa],.int .i64 0),([.agg q21],.int .i64 0),([.agg q25],.int .i64 0),([.agg WN],.int .i64 0),([.agg q82],.int .i64 0)]
noncomputable def sp7:=sp6.put 149 (bM t149)
def t119:List (List V × V):=[([.bT true Jf true],.gB [.int .i64 0,.str []]),([.bT true Yj true],.gB [.int .i64 0,.str []]),([.bT true q83 true],.gB [.int .i64 0,.str []])]
noncomputable def sp8:=sp7.put 119 (bM t119)
def t158:List (List V × V):=[([.bT true Jf true],.imp false q93),([.bT true Yj true],.imp false [(.str [114],.aB)]),([.bT true q83 true],.imp false [(.str [115],.bT false [[.str [114]]] false),(.str [114],.bT false [[.str [115]]] false)])]
noncomputable def Xb:=sp8.put 158 (bM t158)
def t120:List (List V × V):=[([.bT true Jf true],.aB),([.bT true Yj true],.aB),([.bT true q83 true],.bT false [[.str [114]],[.str [115]]] false)]
noncomputable def UR:=Xb.put 120 (bM t120)
def t68:List (List V × V):=[([.bT true Jf true],.gB [.int .i64 0,.str []]),([.bT true Yj true],.gB [.int .i64 0,.str []]),([.bT true q83 true],.gB [.int .i64 3,.str [114]])]
noncomputable def UQ:=UR.put 68 (bM t68)
def t69:List (List V × V):=[([.agg Oa],.agg q29),([.agg q21],.agg q32),([.agg q25],.agg q35)]
noncomputable def OW:=UQ.put 69 (bM t69)
def t13:List (List V × V):=[([.bT true Jf true],.dH false Ue)]
noncomputable def OV:=OW.put 13 (bM t13)
def t78:List (List V × V):=[([.bT true Jf true],.imp false q93)]
noncomputable def OU:=OV.put 78 (bM t78)
def t23:List (List V × V):=[([.bT true Jf true],.bT false [[.str [97]],[.str [98]],[.str [99]]] false)]
noncomputable def OT:=OU.put 23 (bM t23)
def t25:List (List V × V):=[([.bT true Jf true],.bT false [[.bT false [[.str [97]]] false],[.bT false [[.str [98]]] false],[.bT false [[.str [99]]] false]] false)]
noncomputable def OQ:=OT.put 25 (bM t25)
def t88:List (List V × V):=[([.bT true Jf true],.imp false Ym)]
noncomputable def RY:=OQ.put 88 (bM t88)
def t93:List (List V × V):=[([.bT true Jf true,.imp false Ym,.agg Oa,.str [97]],.bool true)]
noncomputable def RX:=RY.put 93 (bM t93)
def t32:List (List V × V):=[([.bT true Jf true,.str [99],.str [97]],.bool true)]
noncomputable def RW:=RX.put 32 (bM t32)
def t28:List (List V × V):=[([.bT true Jf true],.bT false [[.str [99],.bT false [[.str [121]]] true,.bT false [[.str [122]]] true,.bT false [] false,.bT false Jg true],q21,q25] false)]
noncomputable def OO:=RW.put 28 (bM t28)
def t139:List (List V × V):=[([.agg WN,.bT true [[.bool true,.str [113,10,112]],[.bool true,.str []]] true],.bT false Yr false),([.agg WN,.bT true Yq false],.bT false Yq false),([.agg WN,.bT true [[.bool true,.str [50,10,49]],[.bool false,.str []]] false],.bT false Yr false)]
noncomputable def UP:=OO.put 139 (bM t139)
def t142:List (List V × V):=[([.bT true Yj true,.dH true [.imp true [(.str [97],.str [50,10,49])]],.bT true [[.str [120]],[.str [97]],[.str [121]]] true],.bT false [[.bool true,.str [50,10]],[.bool true,.str [50,10,49]],[.bool false,.str []]] true)]
noncomputable def UO:=UP.put 142 (bM t142)
def t202:List (List V × V):=[([.str [97,32,34,92,120,52,49,34,32,59]],.gB [.bT false [[.int .i64 1,.int .i64 0,.str [97]],[.int .i64 2,.int .i64 2,.str [65]],[.int .i64 3,.int .i64 9,.str [59]],[.int .i64 4,.int .i64 10,.str []]] false,.agg [.int .i64 0,.int .i64 0]]),([.str Yp],.gB [.bT false [Yo,[.int .i64 1,.int .i64 5,.str [114]],[.int .i64 3,.int .i64 7,.str [123]],[.int .i64 1,.int .i64 9,.str [105,110]],[.int .i64 1,.int .i64 12,.str [98]],[.int .i64 3,.int .i64 13,.str [44]],[.int .i64 1,.int .i64 15,.str [97]],[.int .i64 3,.int .i64 16,.str [59]],[.int .i64 1,.int .i64 18,.str [111,117,116]],[.int .i64 1,.int .i64 22,.str [120]],[.int .i64 3,.int .i64 23,.str [59]],[.int .i64 1,.int .i64 31,.str [120]],[.int .i64 3,.int .i64 33,.str [61]],[.int .i64 1,.int .i64 35,.str [115,101,108,101,99,116]],[.int .i64 2,.int .i64 42,.str [113,10]],[.int .i64 1,.int .i64 48,.str [97]],[.int .i64 3,.int .i64 49,.str [59]],[.int .i64 3,.int .i64 51,.str [125]],[.int .i64 4,.int .i64 52,.str []]] false,.agg [.int .i64 0,.int .i64 0]]),([.str [114,117,108,101,32,105,110,32,123]],.gB [.bT false [Yo,[.int .i64 1,.int .i64 5,.str [105,110]],[.int .i64 3,.int .i64 8,.str [123]],[.int .i64 4,.int .i64 9,.str []]] false,.agg [.int .i64 0,.int .i64 0]])]
noncomputable def RV:=UO.put 202 (bM t202)
def t203:List (List V × V):=[([.str Yp],.gB [.bT false Yn false,.agg [.int .i64 0,.int .i64 0]]),([.str [114,117,108,101,32,105,110,32,123]],.gB [.aB,.agg [.int .i64 1,.int .i64 5]])]
noncomputable def UN:=RV.put 203 (bM t203)
def t206:List (List V × V):=[([.bT false Yn false],.str [114,117,108,101,32,114,32,123,10,32,32,105,110,32,97,44,32,98,59,10,32,32,111,117,116,32,120,59,10,32,32,120,32,61,32,115,101,108,101,99,116,32,34,113,92,110,34,32,97,59,10,125,10])]
noncomputable def RU:=UN.put 206 (bM t206)
def t242:List (List V × V):=[([],.bool true)]
noncomputable def UM:=RU.put 242 (bM t242)
def t177:List (List V × V):=[([],.bool true)]
noncomputable def ON:=UM.put 177 (bM t177)
def t115:List (List V × V):=[([],.bool true)]
noncomputable def UL:=ON.put 115 (bM t115)
def t77:List (List V × V):=[([.dH false Ue,.int .i64 1,.fn 50 Pq [],.bT false [[.bool false,.str [122]]] true],.bT false [[.bool false,.str [122]],[.bool true,.str [99]]] false),([.dH false Ue,.int .i64 (-1),.fn 52 Pq [],.bT false [[.bool false,.str [121]]] true],.bT false [[.bool false,.str [121]],[.bool false,.str [122]],[.bool true,.str [99]]] false),([.dH false Ue,.int .i64 (-1),.fn 50 Pq [],.bT true [[.bool false,.str [121]]] false],.bT false [[.bool false,.str [115]],[.bool false,.str [120]],[.bool false,.str [121]],[.bool true,.str [97]],[.bool true,.str [98]]] false),([.dH false Ue,.int .i64 (-1),.fn 50 Pq [],.bT false [[.bool false,.str [122]]] true],.bT false [[.bool false,.str [115]],[.bool false,.str [120]],[.bool false,.str [121]],[.bool false,.str [122]],[.bool true,.str [97]],[.bool true,.str [98]],[.bool true,.str [99]]] false),([.dH false Ue,.int .i64 (-1),.fn 52 Pq [],.bT false [[.bool false,.str [120]]] true],.bT false [[.bool false,.str [120]],[.bool false,.str [121]],[.bool false,.str [122]],[.bool true,.str [98]],[.bool true,.str [99]]] false)]
noncomputable def UK:=UL.put 77 (bM t77)
def t101:List (List V × V):=[([.dH false Ue,.bT true [[.bool false,.str [120]]] true],.imp false [(.agg [.bool false,.str [120]],.int .i64 0),(.agg [.bool true,.str [98]],.int .i64 1),(.agg [.bool false,.str [121]],.int .i64 2),(.agg [.bool true,.str [99]],.int .i64 3),(.agg [.bool false,.str [122]],.int .i64 4)])]
noncomputable def Xf:=UK.put 101 (bM t101)
def t11:List (List V × V):=[([],.bool true)]
end Go.Proofs.YtmbikbgdbbcbmaaGreatDoor
end
