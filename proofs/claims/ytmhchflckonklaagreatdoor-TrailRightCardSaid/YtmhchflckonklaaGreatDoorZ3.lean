/- Part 3 of the proof. -/
import Derived.Test.YtmhchflckonklaaGreatDoorY
import Derived.Test.YtmhchflckonklaaGreatDoorZ2
import Derived.Test.YtmhchflckonklaaGreatDoorProg
import Derived.KernelRfl
set_option maxHeartbeats 8000000
set_option linter.unusedVariables false
section
namespace Go.Proofs.YtmhchflckonklaaGreatDoor
open Go Go.Ax
noncomputable def NP:BT Ty:=BT.Mo (Q5 Tryz.prog) 9 0
theorem GR:NP.zR (vS Tryz.prog):=by unfold NP;exact BT.BL (g:=Q5 Tryz.prog) (p:=vS Tryz.prog) (λ_ _ h=>QZ h) 9 0
theorem noGo:(Tryz.prog.funcs.all λfn=>!(fn.name == "runtime.NumGoroutine"))=true:=by kernel_rfl
noncomputable def LB:BT Ax.Fn:=BT.Mo (Su Tryz.prog) 9 0
theorem Ic:LB.zR (Ki Tryz.prog):=by unfold LB;exact BT.BL (g:=Su Tryz.prog) (p:=Ki Tryz.prog) (λ_ _ h=>St noGo h) 9 0
def ty5:Ty:={ kd:=.int .u8,size:=1,bytes:=1,zero:=.int .u8 0 }
def c_:Ty:={ kd:=.str,size:=1,bytes:=16,zero:=.str [] }
def cF:Ty:={ kd:=.jP [(0,4),(1,9)],size:=2,bytes:=24,zero:=.agg [.bool false,.str []] }
def tG:Ty:={ kd:=.map 9 4,size:=1,bytes:=8,zero:=.b_ }
theorem aaM:jH Tryz.prog 7 [.int .i64,.int .i64,.bool,.int .u8]:=jH.of Tryz.underlying7 (by kernel_rfl) (by kernel_rfl) (.cons 0 _ _ _ _ _ (by decide) rfl Tryz.underlying2 rfl (.cons 1 _ _ _ _ _ (by decide) rfl Tryz.underlying3 rfl (.cons 2 _ _ _ _ _ (by decide) rfl Tryz.underlying4 rfl (.cons 3 _ _ _ _ _ (by decide) rfl Tryz.underlying6 rfl (.nil 4)))))
theorem aaL:jH Tryz.prog 8 [.int .i64,.int .i64,.bool,.int .u8]:=jH.of Tryz.underlying8 (by kernel_rfl) (by kernel_rfl) (.cons 0 _ _ _ _ _ (by decide) rfl Tryz.underlying2 rfl (.cons 1 _ _ _ _ _ (by decide) rfl Tryz.underlying3 rfl (.cons 2 _ _ _ _ _ (by decide) rfl Tryz.underlying4 rfl (.cons 3 _ _ _ _ _ (by decide) rfl Tryz.underlying6 rfl (.nil 4)))))
theorem Vu:jH Tryz.prog 50 [.bool,.str]:=jH.of Tryz.underlying50 (by kernel_rfl) (by kernel_rfl) (.cons 0 _ _ _ _ _ (by decide) rfl Tryz.underlying4 rfl (.cons 1 _ _ _ _ _ (by decide) rfl Tryz.underlying9 rfl (.nil 2)))
theorem Vt:jH Tryz.prog 51 [.bool,.str]:=jH.of Tryz.underlying51 (by kernel_rfl) (by kernel_rfl) (.cons 0 _ _ _ _ _ (by decide) rfl Tryz.underlying4 rfl (.cons 1 _ _ _ _ _ (by decide) rfl Tryz.underlying9 rfl (.nil 2)))
theorem SJ:jH Tryz.prog 154 [.bool,.str]:=jH.of Tryz.underlying154 (by kernel_rfl) (by kernel_rfl) (.cons 0 _ _ _ _ _ (by decide) rfl Tryz.underlying4 rfl (.cons 1 _ _ _ _ _ (by decide) rfl Tryz.underlying9 rfl (.nil 2)))
theorem SI:jH Tryz.prog 155 [.bool,.str]:=jH.of Tryz.underlying155 (by kernel_rfl) (by kernel_rfl) (.cons 0 _ _ _ _ _ (by decide) rfl Tryz.underlying4 rfl (.cons 1 _ _ _ _ _ (by decide) rfl Tryz.underlying9 rfl (.nil 2)))
theorem SH:jH Tryz.prog 159 [.str,.str]:=jH.of Tryz.underlying159 (by kernel_rfl) (by kernel_rfl) (.cons 0 _ _ _ _ _ (by decide) rfl Tryz.underlying9 rfl (.cons 1 _ _ _ _ _ (by decide) rfl Tryz.underlying9 rfl (.nil 2)))
theorem SG:jH Tryz.prog 160 [.str,.str]:=jH.of Tryz.underlying160 (by kernel_rfl) (by kernel_rfl) (.cons 0 _ _ _ _ _ (by decide) rfl Tryz.underlying9 rfl (.cons 1 _ _ _ _ _ (by decide) rfl Tryz.underlying9 rfl (.nil 2)))
theorem SF:jH Tryz.prog 216 [.int .i64,.int .i64]:=jH.of Tryz.underlying216 (by kernel_rfl) (by kernel_rfl) (.cons 0 _ _ _ _ _ (by decide) rfl Tryz.underlying87 rfl (.cons 1 _ _ _ _ _ (by decide) rfl Tryz.underlying3 rfl (.nil 2)))
theorem SE:jH Tryz.prog 217 [.int .i64,.int .i64]:=jH.of Tryz.underlying217 (by kernel_rfl) (by kernel_rfl) (.cons 0 _ _ _ _ _ (by decide) rfl Tryz.underlying87 rfl (.cons 1 _ _ _ _ _ (by decide) rfl Tryz.underlying3 rfl (.nil 2)))
theorem SD:jH Tryz.prog 222 [.int .i64,.int .i64,.str]:=jH.of Tryz.underlying222 (by kernel_rfl) (by kernel_rfl) (.cons 0 _ _ _ _ _ (by decide) rfl Tryz.underlying3 rfl (.cons 1 _ _ _ _ _ (by decide) rfl Tryz.underlying3 rfl (.cons 2 _ _ _ _ _ (by decide) rfl Tryz.underlying9 rfl (.nil 3))))
theorem SC:jH Tryz.prog 223 [.int .i64,.int .i64,.str]:=jH.of Tryz.underlying223 (by kernel_rfl) (by kernel_rfl) (.cons 0 _ _ _ _ _ (by decide) rfl Tryz.underlying3 rfl (.cons 1 _ _ _ _ _ (by decide) rfl Tryz.underlying3 rfl (.cons 2 _ _ _ _ _ (by decide) rfl Tryz.underlying9 rfl (.nil 3))))
theorem SA:jH Tryz.prog 310 [.int .u8,.int .u8]:=jH.of Tryz.underlying310 (by kernel_rfl) (by kernel_rfl) (.cons 0 _ _ _ _ _ (by decide) rfl Tryz.underlying5 rfl (.cons 1 _ _ _ _ _ (by decide) rfl Tryz.underlying5 rfl (.nil 2)))
theorem Sz:jH Tryz.prog 311 [.int .u8,.int .u8]:=jH.of Tryz.underlying311 (by kernel_rfl) (by kernel_rfl) (.cons 0 _ _ _ _ _ (by decide) rfl Tryz.underlying5 rfl (.cons 1 _ _ _ _ _ (by decide) rfl Tryz.underlying5 rfl (.nil 2)))
theorem Sy:jH Tryz.prog 336 [.str]:=jH.of Tryz.underlying336 (by kernel_rfl) (by kernel_rfl) (.cons 0 _ _ _ _ _ (by decide) rfl Tryz.underlying9 rfl (.nil 1))
theorem Sw:jH Tryz.prog 337 [.str]:=jH.of Tryz.underlying337 (by kernel_rfl) (by kernel_rfl) (.cons 0 _ _ _ _ _ (by decide) rfl Tryz.underlying9 rfl (.nil 1))
def TO:BT (List Kd):=(.node 216 (.node 154 (.node 50 (.node 8 (.leaf 7 [.int .i64,.int .i64,.bool,.int .u8]) (.leaf 8 [.int .i64,.int .i64,.bool,.int .u8])) (.node 51 (.leaf 50 [.bool,.str]) (.leaf 51 [.bool,.str]))) (.node 159 (.node 155 (.leaf 154 [.bool,.str]) (.leaf 155 [.bool,.str])) (.node 160 (.leaf 159 [.str,.str]) (.leaf 160 [.str,.str])))) (.node 310 (.node 222 (.node 217 (.leaf 216 [.int .i64,.int .i64]) (.leaf 217 [.int .i64,.int .i64])) (.node 223 (.leaf 222 [.int .i64,.int .i64,.str]) (.leaf 223 [.int .i64,.int .i64,.str]))) (.node 336 (.node 311 (.leaf 310 [.int .u8,.int .u8]) (.leaf 311 [.int .u8,.int .u8])) (.node 337 (.leaf 336 [.str]) (.leaf 337 [.str])))))
theorem Il:TO.zR (jH Tryz.prog):=⟨⟨⟨⟨aaM,aaL⟩,⟨Vu,Vt⟩⟩,⟨⟨SJ,SI⟩,⟨SH,SG⟩⟩⟩,⟨⟨⟨SF,SE⟩,⟨SD,SC⟩⟩,⟨⟨SA,Sz⟩,⟨Sy,Sw⟩⟩⟩⟩
end Go.Proofs.YtmhchflckonklaaGreatDoor
end
section
namespace Go.AxS
open Go Go.Ax
theorem Cu:∀s,slt s s=false
 | []=>rfl
 |a::s=>by rw[xW];simp[Cu s]
theorem Et:∀s t u,slt s t=true->slt t u=true->slt s u=true
 |_,[],_,h,_=>by cases ‹List Nat› <;> simp[slt]at h
 |_,_::_,[],_,h=>by simp[slt]at h
 | [],b::t,c::u,_,_=>rfl
 |a::s,b::t,c::u,h1,h2=>by
  rw[xW]at h1 h2 ⊢
  simp only[fq,aj,OF]at h1 h2 ⊢
  rcases h1 with h1 | ⟨rfl,h1⟩
  ·rcases h2 with h2 | ⟨rfl,h2⟩
   ·exact .inl (by omega)
   ·exact .inl h1
  ·rcases h2 with h2 | ⟨rfl,h2⟩
   ·exact .inl h2
   ·exact .inr ⟨rfl,Et s t u h1 h2⟩
theorem Eu:∀s t,slt s t=false->slt t s=false->s=t
 | [],[],_,_=>rfl
 | [],_::_,h,_=>by simp[slt]at h
 |_::_,[],_,h=>by simp[slt]at h
 |a::s,b::t,h1,h2=>by
  rw[xW]at h1 h2
  simp only[Bool.or_eq_false_iff,Bool.and_eq_false_iff,decide_eq_false_iff_not]at h1 h2
  have e:a=b:=by omega
  subst e
  rw[Eu s t (h1.2.resolve_left (λh=>h rfl)) (h2.2.resolve_left (λh=>h rfl))]
theorem kE:∀s t:List Nat,Ax.seq s t=true ↔ s=t
 | [],[]=>by simp[Ax.seq]
 | [],_::_=>by simp[Ax.seq]
 |_::_,[]=>by simp[Ax.seq]
 |a::s,b::t=>by rw[Cy];simp[kE s t]
theorem vA (s t:List Nat):Ax.seq s t=decide (s=t):=by
 rw[dw,kE];simp
abbrev aG:=Bool × List Nat
def row (x:aG):List V:=[.bool x.1,.str x.2]
def lt (x y:aG):Bool:=match x.1,y.1 with
 |false,true=>true
 |true,false=>false
 |_,_=>slt x.2 y.2
theorem U2 (x y:aG):rF (row x) (row y)=lt x y:=by
 obtain⟨a,s⟩:=x;obtain⟨b,t⟩:=y
 cases a <;> cases b <;> rfl
theorem lt_irrefl (x:aG):lt x x=false:=by
 obtain⟨a,s⟩:=x
 cases a <;> exact Cu s
theorem lt_trans (x y z:aG)(h1:lt x y=true)(h2:lt y z=true):lt x z=true:=by
 obtain⟨a,s⟩:=x;obtain⟨b,t⟩:=y;obtain⟨c,u⟩:=z
 cases a <;> cases b <;> cases c <;> simp only[lt]at h1 h2 ⊢ <;> first | exact Et _ _ _ h1 h2 | rfl | exact absurd h1 Bool.false_ne_true | exact absurd h2 Bool.false_ne_true
theorem HH (x y:aG)(h1:lt x y=false)(h2:lt y x=false):x=y:=by
 obtain⟨a,s⟩:=x;obtain⟨b,t⟩:=y
 cases a <;> cases b <;> simp only[lt]at h1 h2 <;> first | rw[Eu _ _ h1 h2] | exact absurd h1.symm Bool.false_ne_true | exact absurd h2.symm Bool.false_ne_true
theorem lt_asymm {x y:aG}(h:lt x y=true):lt y x=false:=by
 cases hy:lt y x with
 |false=>rfl
 |true=>have:=lt_trans _ _ _ h hy;rw[lt_irrefl]at this;cases this
def Up (l:List aG):Prop:=l.Pairwise λx y=>lt x y=true
theorem Cc:∀{l m:List aG},Up l->Up m->(∀x,x∈l ↔ x∈m)->l=m
 | [],[],_,_,_=>rfl
 | [],y::m,_,_,h=>by have:=(h y).2 (By ..);cases this
 |x::l,[],_,_,h=>by have:=(h x).1 (By ..);cases this
 |x::l,y::m,h1,h2,h=>by
  rw[Up,jz]at h1 h2
  have e:x=y:=by
   rcases IN.1 ((h x).1 (By ..)) with e | hx
   ·exact e
   rcases IN.1 ((h y).2 (By ..)) with e | hy
   ·exact e.symm
   have:=lt_asymm (h1.1 y hy)
   rw[h2.1 x hx]at this;cases this
  subst e
  rw[Cc h1.2 h2.2 λz=>⟨λhz=>?_,λhz=>?_⟩]
  ·rcases IN.1 ((h z).1 (No _ hz)) with rfl | hz'
   ·have:=h1.1 z hz;rw[lt_irrefl]at this;cases this
   ·exact hz'
  ·rcases IN.1 ((h z).2 (No _ hz)) with rfl | hz'
   ·have:=h2.1 z hz;rw[lt_irrefl]at this;cases this
   ·exact hz'
theorem Up.nodup {l:List aG}(h:Up l):l.Nodup:=h.imp λhxy e=>by
 subst e;rw[lt_irrefl]at hxy;cases hxy
def put:List aG->aG->List aG
 | [],x=>[x]
 |y::r,x=>if lt y x=true then y::put r x else if y=x then y::r else x::y::r
theorem sH {x z:aG}:∀{l:List aG},z∈put l x ↔ z∈l\/z=x
 | []=>by simp[put]
 |y::r=>by
  simp only[put]
  split
  ·rw[IN,sH,IN,or_assoc]
  ·split
   ·rename_i e;subst e
    simp only[IN]
    constructor
    ·intro h;exact .inl h
    ·rintro (h | rfl)
     ·exact h
     ·exact .inl rfl
   ·simp only[IN]
    constructor
    ·rintro (rfl | h)
     ·exact .inr rfl
     ·exact .inl h
    ·rintro (h | rfl)
     ·exact .inr h
     ·exact .inl rfl
theorem CI {x:aG}:∀{l:List aG},Up l->Up (put l x)
 | [],_=>by simp[put,Up]
 |y::r,h=>by
  have h0:=h
  rw[Up,jz]at h
  simp only[put]
  split
  ·rename_i hyx
   refine jz.2 ⟨λz hz=>?_,CI h.2⟩
   rcases sH.1 hz with hz | rfl
   ·exact h.1 z hz
   ·exact hyx
  ·rename_i hyx
   split
   ·exact h0
   ·rename_i hne
    have hxy:lt x y=true:=by
     cases hc:lt x y with
     |true=>rfl
     |false=>exact absurd (HH _ _ (by simpa using hyx) hc) hne
    refine jz.2 ⟨λz hz=>?_,h0⟩
    rcases IN.1 hz with rfl | hz
    ·exact hxy
    ·exact lt_trans _ _ _ hxy (h.1 z hz)
def setOf (l:List aG):List aG:=l.foldl put []
theorem yY:∀(l acc:List aG),Up acc->Up (l.foldl put acc)
 | [],_,h=>h
 |_::l,_,h=>yY l _ (CI h)
theorem v_ {z:aG}:∀(l acc:List aG),z∈l.foldl put acc ↔ z∈acc\/z∈l
 | [],acc=>by simp
 |x::l,acc=>by
  rw[lj,v_ l,sH,IN,or_assoc]
theorem nR (l:List aG):Up (setOf l):=yY l [] List.Pairwise.nil
theorem iW {l:List aG}{z:aG}:z∈setOf l ↔ z∈l:=by
 rw[setOf,v_];simp
theorem G_ {l m:List aG}(h:∀x,x∈l ↔ x∈m):setOf l=setOf m:=Cc (nR l) (nR m) λx=>by rw[iW,iW,h]
theorem HW (x:aG):∀{l:List aG},Up l->x ∉ l->C_ rF (row x) (l.map row)=(put l x).map row
 | [],_,_=>rfl
 |y::r,h,hx=>by
  rw[Up,jz]at h
  rw[IN,pq]at hx
  simp only[bl,C_,put,U2]
  cases hxy:lt x y with
  |true=>
   rw[bf rfl,az (by rw[lt_asymm hxy];simp),az (λe=>hx.1 e.symm)]
   rfl
  |false=>
   have hyx:lt y x=true:=by
    cases hc:lt y x with
    |true=>rfl
    |false=>exact absurd (HH _ _ hxy hc) hx.1
   rw[az (by simp),bf hyx,HW x h.2 hx.2]
   rfl
theorem E4:∀(l acc:List aG),Up acc->l.Nodup->(∀x∈l,x ∉ acc)->(l.map row).foldl (λacc x=>C_ rF x acc) (acc.map row)=(l.foldl put acc).map row
 | [],_,_,_,_=>rfl
 |x::l,acc,h,hn,hd=>by
  rw[dm]at hn
  rw[bl,lj,lj,HW x h (hd x (By ..))]
  refine E4 l _ (CI h) hn.2 λz hz hm=>?_
  rcases sH.1 hm with hm | rfl
  ·exact hd z (No _ hz) hm
  ·exact hn.1 hz
theorem En {l:List aG}(hn:l.Nodup):kY rF (l.map row)=(setOf l).map row:=E4 l [] List.Pairwise.nil hn λ_ _ h=>by cases h
theorem xY {l:List aG}(hn:l.Nodup):(setOf l).length=l.length:=by
 suffices ∀(l acc:List aG),l.Nodup->(∀x∈l,x ∉ acc)->(l.foldl put acc).length=acc.length+l.length by
  have:=this l [] hn (λ_ _ h=>by cases h)
  simpa [setOf]using this
 intro l
 induction l with
 |nil=>intro acc _ _;simp
 |cons x l ih=>
  intro acc hn hd
  rw[dm]at hn
  have hp:∀{m:List aG},x ∉ m->(put m x).length=m.length+1:=by
   intro m
   induction m with
   |nil=>intro _;rfl
   |cons y r ihr=>
    intro hx
    rw[IN,pq]at hx
    simp only[put]
    split
    ·simp[ihr hx.2]
    ·rw[az (λe=>hx.1 e.symm)];simp
  rw[lj,ih _ hn.2,hp (hd x (By ..)),af]
  ·omega
  ·intro z hz hm
   rcases sH.1 hm with hm | rfl
   ·exact hd z (No _ hz) hm
   ·exact hn.1 hz
def kB (l:List aG) (x:aG):List aG:=if x∈l then l else l++[x]
def keys (l:List aG) (xs:List aG):List aG:=xs.foldl kB l
theorem ES {l:List aG}{x z:aG}:z∈kB l x ↔ z∈l\/z=x:=by
 unfold kB
 split
 ·rename_i h
  constructor
  ·exact .inl
  ·rintro (h' | rfl)
   ·exact h'
   ·exact h
 ·simp
theorem HP {l:List aG}{x:aG}(h:l.Nodup):(kB l x).Nodup:=by
 unfold kB
 split
 ·exact h
 ·rename_i hx
  rw[jv]
  refine⟨h,by simp,?_⟩
  intro a ha b hb e
  rw[cj]at hb
  subst hb;subst e
  exact hx ha
theorem mem_keys {z:aG}:∀{xs l:List aG},z∈keys l xs ↔ z∈l\/z∈xs
 | [],l=>by simp[keys]
 |x::xs,l=>by
  show z∈keys (kB l x) xs ↔ _
  rw[mem_keys,ES,IN,or_assoc]
theorem nT:∀{xs l:List aG},(keys l xs).length<=l.length+xs.length
 | [],l=>by simp[keys]
 |x::xs,l=>by
  show (keys (kB l x) xs).length<=_
  have:=nT (xs:=xs) (l:=kB l x)
  have h2:(kB l x).length<=l.length+1:=by unfold kB;split <;> simp
  simp only[af]
  omega
end Go.AxS
end
section
namespace Go.AxS
open Go
abbrev bH:=List Nat
structure Step where
 out:bH
 op:Int
 args:List bH
 lits:List bH
 n:Int
structure aD where
 name:bH
 ins:List bH
 outs:List bH
 after:List bH
 steps:List Step
def sign (c:Nat):Bool:=(decide (97<=c)&&decide (c<=122))||((decide (65<=c)&&decide (c<=90))||((decide (48<=c)&&decide (c<=57))||(decide (c=46)||(decide (c=95)||decide (c=45)))))
def rZ (p:bH):Bool:=!(decide (p=[])||decide (p=[46])||decide (p=[46,46]))&&p.all sign
def pG (s:bH):Bool:=decide (s=[114,117,108,101])||(decide (s=[105,110])||(decide (s=[111,117,116])||decide (s=[97,102,116,101,114])))
def bN (s:bH):Bool:=!pG s&&decide (s.length<=40)&&(Ax.cO 47 s).all rZ
def counts (op:Int):Nat × Nat × Nat:=if op=5 then (0,6,0) else if op=6 then (0,0,1) else if op=7 then (1,1,1) else if op=8 then (1,1,2) else (1,1,0)
def cM (s:Step):Bool:=decide (1<=s.op/\s.op<=9)&&decide ((counts s.op).1<=s.args.length/\s.args.length<=(counts s.op).2.1)&&decide (s.lits.length=(counts s.op).2.2)&&s.lits.all (λl=>decide (l.length<=100))
 && decide (s.op=8->s.lits.head?≠some [])&&decide (0<=s.n/\s.n<=2000)&&decide (s.op=9\/s.n=0)
def kW:List bH->Bool
 | []=>false
 |s::l=>decide (s∈l)||kW l
def kT (r:aD):Bool:=bN r.name&&decide (r.outs≠[])&&r.ins.all bN&&r.outs.all bN&&r.after.all bN&&r.steps.all λs=>bN s.out&&s.args.all bN&&cM s
def long (r:aD):Bool:=decide (8<r.ins.length)||decide (4<r.outs.length)||decide (8<r.after.length)||decide (12<r.steps.length)
def iP:List bH->List Step->Bool
 |_,[]=>true
 |known,s::l=>!decide (s.out∈known)&&s.args.all (λa=>decide (a∈known))&&iP (known++[s.out]) l
def fV (r:aD):Bool:=!kW r.ins && !kW r.outs && !kW r.after && !decide (r.name∈r.after)&&r.outs.all (λo=>!decide (o∈r.ins))&&iP r.ins r.steps&&r.outs.all λo=>decide (o∈r.ins++r.steps.map Step.out)
def bE (r:aD):Int:=if kT r=false then 1 else if long r=true then 4 else if fV r=false then 2 else 0
def bI {α:Type} (p:α->Bool):List α->Option Nat
 | []=>none
 |x::l=>if p x=true then some 0 else (bI p l).map (· + 1)
def eW (rs:List aD) (f:bH):Option Nat:=bI (λr=>decide (f∈r.outs)) rs
def gB (rs:List aD) (n:bH):Option Nat:=bI (λr=>decide (r.name=n)) rs
def yP (rs:List aD) (data:Bool) (r:aD) (k:Nat):Bool:=r.ins.any (λf=>decide (eW rs f=some k))||(!data&&r.after.any λn=>decide (gB rs n=some k))
def jS (rs:List aD) (data:Bool) (i k:Nat):Bool:=match rs[i]? with
 |some r=>yP rs data r k
 |none=>false
inductive Way (m:Nat->Nat->Bool):Nat->Nat->Prop
 |one {i k}:m i k=true->Way m i k
 |cons {i j k}:m i j=true->Way m j k->Way m i k
theorem Way.trans {m:Nat->Nat->Bool}{i j k:Nat}(h:Way m i j) (g:Way m j k):Way m i k:=by
 induction h with
 |one h=>exact .cons h g
 |cons h _ ih=>exact .cons h (ih g)
def oP (rs:List aD) (i:Nat):Bool:=match rs[i]? with
 |some r=>(rs.take i).any λq=>decide (q.name=r.name)||r.outs.any λo=>decide (o∈q.outs)
 |none=>false
def sY (rs:List aD):Bool:=(List.range rs.length).any (oP rs)
def h_ (rs:List aD):Bool:=rs.any λr=>r.after.any λn=>decide (gB rs n=none)
def gZ (rs:List aD):Int:=match rs.find? λr=>decide (bE r≠0) with
 |some r=>bE r
 |none=>if 40<rs.length then 4 else if sY rs=true then 2 else if h_ rs=true then 2 else 0
def Ring (rs:List aD):Prop:=∃i,i<rs.length/\Way (jS rs false) i i
def IV (rs:List aD) (e:Int):Prop:=(gZ rs≠0/\e=gZ rs)\/(gZ rs=0/\((Ring rs/\e=3)\/(¬ Ring rs/\e=0)))
def nO (rs:List aD):Prop:=gZ rs=0/\¬ Ring rs
theorem IV.zero {rs:List aD}{e:Int}(h:IV rs e):e=0 ↔ nO rs:=by
 unfold nO
 rcases h with⟨h1,h2⟩ | ⟨h1,⟨h2,h3⟩ | ⟨h2,h3⟩⟩
 ·exact⟨λg=>absurd (h2.symm.trans g) h1,λg=>absurd g.1 h1⟩
 ·exact⟨λg=>by omega,λg=>absurd h2 g.2⟩
 ·exact⟨λ_=>⟨h1,h2⟩,λ_=>h3⟩
end Go.AxS
end
section
namespace Go.Ax
theorem iT {α:Type} [DecidableEq α]:∀{a b:List α},a.Nodup->(∀x∈a,x∈b)->a.length<=b.length
 | [],b,_,_=>ij _
 |x::a,b,hn,h=>by
  obtain⟨hx,ha⟩:=dm.1 hn
  have hm:x∈b:=h x (By ..)
  have:=iT (b:=b.erase x) ha λy hy=>by
   have hne:y≠x:=λe=>hx (e ▸ hy)
   exact (List.mem_erase_of_ne hne).2 (h y (No _ hy))
  rw[List.length_erase_of_mem hm]at this
  have:0<b.length:=List.length_pos_of_mem hm
  rw[af];omega
end Go.Ax
namespace Go.AxS
open Go
def wk (m:Nat->Nat->Bool):Nat->Nat->Nat->Bool
 |0,i,j=>m i j
 |k+1,i,j=>wk m k i j||(wk m k i k&&wk m k k j)
theorem NG {m:Nat->Nat->Bool} (k j:Nat):wk m (k+1) k j=wk m k k j:=by
 rw[wk];cases wk m k k j <;> simp
theorem NH {m:Nat->Nat->Bool} (k i:Nat):wk m (k+1) i k=wk m k i k:=by
 rw[wk];cases wk m k i k <;> simp
theorem FB {m : Nat -> Nat -> Bool} {i j : Nat} : ∀ {k l : Nat}, k <= l -> wk m k i j = true -> wk m l i j = true
  | k, 0, h, e => by obtain rfl : k = 0 := by omega
                     exact e
  | k, l + 1, h, e => by
    rcases bz l k with g | g
    · obtain rfl : k = l + 1 := by omega
      exact e
    · rw [wk, FB g e]; rfl
theorem xK {m:Nat->Nat->Bool}:∀(k i j l:Nat),j<k->wk m k i j=true->wk m k j l=true->wk m k i l=true
 |0,_,_,_,h,_,_=>absurd h (by omega)
 |k+1,i,j,l,h,a,b=>by
  by_cases hj:j=k
  ·subst hj
   rw[NH]at a
   rw[NG]at b
   rw[wk,a,b];simp
  ·have hj:j<k:=by omega
   rw[wk,fq,aj]at a b ⊢
   rcases a with a | ⟨a1,a2⟩ <;> rcases b with b | ⟨b1,b2⟩
   ·exact .inl (xK k i j l hj a b)
   ·exact .inr ⟨xK k i j k hj a b1,b2⟩
   ·exact .inr ⟨a1,xK k k j l hj a2 b⟩
   ·exact .inr ⟨a1,b2⟩
theorem Ca {m:Nat->Nat->Bool}:∀{k i j:Nat},wk m k i j=true->Way m i j
 |0,_,_,h=>.one h
 |k+1,i,j,h=>by
  rw[wk,fq,aj]at h
  rcases h with h | ⟨h1,h2⟩
  ·exact Ca h
  ·exact (Ca h1).trans (Ca h2)
theorem T3 {m:Nat->Nat->Bool}{n:Nat}(hm:∀i j,m i j=true->i<n/\j<n) {i j:Nat}(h:Way m i j):wk m n i j=true:=by
 induction h with
 |one h=>exact FB (ij n) h
 |cons h _ ih=>exact xK n _ _ _ (hm _ _ h).2 (FB (ij n) h) ih
theorem Way.step {m:Nat->Nat->Bool}{i j:Nat}(h:Way m i j):∃k,m i k=true/\(k=j\/Way m k j):=by
 cases h with
 |one h=>exact⟨_,h,.inl rfl⟩
 |cons h g=>exact⟨_,h,.inr g⟩
def eT (bD:List Int) (i:Nat):Int:=(bD[i]?).getD (-1)
theorem mI {bD:List Int}{i j:Nat}{d:Int}(hi:i<bD.length):eT (bD.set i d) j=if j=i then d else eT bD j:=by
 unfold eT
 by_cases h:j=i
 ·subst h
  rw[bf rfl,bj hi];rfl
 ·rw[az h,IT (λe=>h e.symm)]
structure mP (m:Nat->Nat->Bool) (n first d i k:Nat) (bD:List Int):Prop where
 len:bD.length=n
 Mo:∀j,j<n->eT bD j = -1\/(0<=eT bD j/\eT bD j<=(d:Int)/\(i<j->eT bD j<(d:Int)))
 zero:∀j,j<n->(eT bD j=0 ↔ j=first)
 down:∀j (e:Nat),j<n->eT bD j=(e:Int)+1->∃l,l<n/\m j l=true/\eT bD l=(e:Int)
 old:∀j l,j<n->l<n->m j l=true->0<=eT bD l->eT bD l+1<(d:Int)->0<=eT bD j
 now:∀j l,j<i->j<n->l<n->m j l=true->eT bD l+1=(d:Int)->0<=eT bD j
 row:∀l,l<k->i<n->l<n->m i l=true->eT bD l+1=(d:Int)->0<=eT bD i
theorem mP.init {m:Nat->Nat->Bool}{n first:Nat}(hf:first<n):mP m n first 1 0 0 ((List.replicate n (-1)).set first 0):=by
 have hl:first<(List.replicate n (-1:Int)).length:=by simpa using hf
 have hg:∀j,j<n->eT ((List.replicate n (-1)).set first 0) j=if j=first then 0 else -1:=λj hj=>by
  rw[mI hl]
  split
  ·rfl
  ·unfold eT;simp[hj]
 refine⟨by simp,λj hj=>?_,λj hj=>?_,λj e hj h=>?_,λj l hj hl hm h1 h2=>?_,λj l hj=>?_,λl hl=>?_⟩
 ·rw[hg j hj];split
  ·exact .inr ⟨by omega,by omega,λ_=>by omega⟩
  ·exact .inl rfl
 ·rw[hg j hj];split
  ·rename_i h;exact⟨λ_=>h,λ_=>rfl⟩
  ·rename_i h;exact⟨λg=>absurd g (by omega),λg=>absurd g h⟩
 ·rw[hg j hj]at h;split at h <;> omega
 ·omega
 ·omega
 ·omega
theorem mP.skip {m:Nat->Nat->Bool}{n first d i k:Nat}{bD:List Int}(h:mP m n first d i k bD)(hne:¬ (m i k=true/\eT bD k=(d:Int)-1)):mP m n first d i (k+1) bD:=by
 refine⟨h.len,h.Mo,h.zero,h.down,h.old,h.now,λl hl hi hln hm e=>?_⟩
 rcases bz l k with g | g
 ·exact h.row l g hi hln hm e
 ·obtain rfl:l=k:=by omega
  exact absurd ⟨hm,by omega⟩ hne
theorem mP.put {m:Nat->Nat->Bool}{n first d i k:Nat}{bD:List Int}(h:mP m n first d i k bD)(hi:i<n)(hk:k<n)(hd:1<=d)(hf:eT bD i<0)(hm:m i k=true)(he:eT bD k=(d:Int)-1) :
  mP m n first d i (k+1) (bD.set i (d:Int)):=by
 have hl:i<bD.length:=by rw[h.len];exact hi
 have hi1:eT bD i = -1:=by rcases h.Mo i hi with g | ⟨g,_⟩ <;> omega
 have hki:k≠i:=λe=>by subst e;omega
 refine⟨by rw[ec];exact h.len,λj hj=>?_,λj hj=>?_,λj e hj g=>?_,λj l hj hl2 hm2 h1 h2=>?_,λj l hji hj hl2 hm2 h1=>?_,λl hlk hi2 hl2 hm2 h1=>?_⟩
 ·rw[mI hl];split
  ·rename_i e;subst e;exact .inr ⟨by omega,by omega,λg=>by omega⟩
  ·exact h.Mo j hj
 ·rw[mI hl];split
  ·rename_i e;subst e
   constructor
   ·intro g;omega
   ·intro g;have:=(h.zero j hj).2 g;omega
  ·exact h.zero j hj
 ·rw[mI hl]at g;split at g
  ·rename_i e2;subst e2
   exact⟨k,hk,hm,by rw[mI hl,az hki];omega⟩
  ·obtain⟨l,h1,h2,h3⟩:=h.down j e hj g
   refine⟨l,h1,h2,?_⟩
   rw[mI hl,az]
   ·exact h3
   ·intro e2;subst e2;omega
 ·rw[mI hl]at h1 h2 ⊢
  split
  ·omega
  ·split at h1
   ·rename_i e2;rw[bf e2]at h2;omega
   ·rename_i e2;rw[az e2]at h2;exact h.old j l hj hl2 hm2 h1 h2
 ·rw[mI hl]at h1 ⊢
  split
  ·omega
  ·split at h1
   ·omega
   ·exact h.now j l hji hj hl2 hm2 h1
 ·rw[mI hl,bf rfl];omega
theorem mP.next {m:Nat->Nat->Bool}{n first d i k:Nat}{bD:List Int}(h:mP m n first d i k bD)(hk:k=n\/0<=eT bD i)(hi:i<n):mP m n first d (i+1) 0 bD:=by
 refine⟨h.len,λj hj=>?_,h.zero,h.down,h.old,λj l hj hjn hl hm e=>?_,λl hl=>by omega⟩
 ·rcases h.Mo j hj with g | ⟨g1,g2,g3⟩
  ·exact .inl g
  ·exact .inr ⟨g1,g2,λg=>g3 (by omega)⟩
 ·rcases bz j i with g | g
  ·exact h.now j l g hjn hl hm e
  ·obtain rfl:j=i:=by omega
   rcases hk with rfl | hk
   ·exact h.row l hl hjn hl hm e
   ·exact hk
theorem mP.round {m:Nat->Nat->Bool}{n first d:Nat}{bD:List Int}(h:mP m n first d n 0 bD):mP m n first (d+1) 0 0 bD:=by
 refine⟨h.len,λj hj=>?_,h.zero,h.down,λj l hj hl hm h1 h2=>?_,λj l hj=>by omega,λl hl=>by omega⟩
 ·rcases h.Mo j hj with g | ⟨g1,g2,_⟩
  ·exact .inl g
  ·exact .inr ⟨g1,by omega,λ_=>by omega⟩
 ·rcases bz ((eT bD l+1).toNat) d with g | g
  ·exact h.old j l hj hl hm h1 (by omega)
  ·exact h.now j l hj hj hl hm (by omega)
theorem mP.small {m:Nat->Nat->Bool}{n first d:Nat}{bD:List Int}(h:mP m n first d 0 0 bD) {j:Nat}(hj:j<n):eT bD j<(n:Int):=by
 have chain:∀(e:Nat) (j:Nat),j<n->eT bD j=(e:Int)->∃l:List Nat,l.length=e+1/\l.Nodup/\∀x∈l,x<n/\0<=eT bD x/\eT bD x<=(e:Int):=by
  intro e
  induction e with
  |zero=>intro j hj he;exact⟨[j],rfl,by simp,λx hx=>by simp at hx;subst hx;exact⟨hj,by omega,by omega⟩⟩
  |succ e ih=>
   intro j hj he
   obtain⟨k,hk,_,hk2⟩:=h.down j e hj (by omega)
   obtain⟨l,h1,h2,h3⟩:=ih k hk hk2
   refine⟨j::l,by simp[h1],dm.2 ⟨λhm=>?_,h2⟩,λx hx=>?_⟩
   ·have:=(h3 j hm).2.2;omega
   ·rcases IN.1 hx with rfl | hx
    ·exact⟨hj,by omega,by omega⟩
    ·obtain⟨a,b,c⟩:=h3 x hx;exact⟨a,b,by omega⟩
 rcases h.Mo j hj with g | ⟨g,_⟩
 ·omega
 ·obtain⟨l,h1,h2,h3⟩:=chain (eT bD j).toNat j hj (by omega)
  have:l.length<=(List.range n).length:=Ax.iT h2 λx hx=>l5.2 (h3 x hx).1
  rw[l6]at this
  omega
theorem mP.closed {m:Nat->Nat->Bool}{n first:Nat}{bD:List Int}(h:mP m n first (n+1) 0 0 bD) {j l:Nat}(hj:j<n)(hl:l<n)(hm:m j l=true)(hf:0<=eT bD l):0<=eT bD j:=
 h.old j l hj hl hm hf (by have:=h.small hl;omega)
theorem mP.way {m:Nat->Nat->Bool}{n first:Nat}{bD:List Int}(hmn:∀i j,m i j=true->i<n/\j<n)(h:mP m n first (n+1) 0 0 bD)(hf:first<n) {j:Nat}(hw:Way m j first):0<=eT bD j:=by
 have h0:eT bD first=0:=(h.zero first hf).2 rfl
 have:∀i j,Way m i j->j=first->0<=eT bD i:=by
  intro i j hw
  induction hw with
  |one g=>intro e;subst e;exact h.closed (hmn _ _ g).1 hf g (by omega)
  |cons g _ ih=>intro e;exact h.closed (hmn _ _ g).1 (hmn _ _ g).2 g (ih e)
 exact this j first hw rfl
theorem mP.first {m:Nat->Nat->Bool}{n first:Nat}{bD:List Int}(hmn:∀i j,m i j=true->i<n/\j<n)(h:mP m n first (n+1) 0 0 bD)(hf:first<n)(hw:Way m first first):∃k,k<n/\m first k=true/\0<=eT bD k:=by
 obtain⟨k,hk,e | g⟩:=hw.step
 ·subst e;exact⟨k,hf,hk,by rw[(h.zero k hf).2 rfl];omega⟩
 ·exact⟨k,(hmn _ _ hk).2,hk,h.way hmn hf g⟩
end Go.AxS
end
section
namespace Go.Ax
open Go
def pP (t:Nat):List V->Sg->Option (V × Sg)
 | [.aF],Z=>some (.gR [],Z)
 | [.sl b 0 len _],Z=>match Z[b]? with
  |some (.cells u cs ex)=>match Nat.beq u t,Nat.beq len cs.length,allRows kQ (cs.map λv=>[v]),Nat.ble len 1000000 with
   |true,true,true,true=>some (.gR [],Z.set b (.cells u (kY strLt (cs.map λv=>[v])).flatten ex))
   |_,_,_,_=>none
  |_=>none
 |_,_=>none
end Go.Ax
end
section
namespace Go.Proofs.YtmhchflckonklaaGreatDoor
open Go Go.Ax
def RL:BT Ax.Mode:=(.node 215 (.node 135 (.node 89 (.node 67 (.node 54 (.node 46 (.leaf 45 Ax.Mode.move) (.leaf 46 Ax.Mode.shared)) (.node 63 (.leaf 54 Ax.Mode.shared) (.node 65 (.leaf 63 Ax.Mode.shared) (.leaf 65 Ax.Mode.shared)))) (.node 83 (.node 73 (.leaf 67 Ax.Mode.shared) (.leaf 73 Ax.Mode.shared)) (.node 84 (.leaf 83 Ax.Mode.shared) (.node 85 (.leaf 84 Ax.Mode.shared) (.leaf 85 Ax.Mode.shared))))) (.node 117 (.node 102 (.node 101 (.leaf 89 Ax.Mode.shared) (.leaf 101 Ax.Mode.shared)) (.node 105 (.leaf 102 Ax.Mode.shared) (.node 108 (.leaf 105 Ax.Mode.shared) (.leaf 108 Ax.Mode.shared)))) (.node 119 (.node 118 (.leaf 117 Ax.Mode.shared) (.leaf 118 Ax.Mode.shared)) (.node 127 (.leaf 119 Ax.Mode.shared) (.node 129 (.leaf 127 Ax.Mode.shared) (.leaf 129 Ax.Mode.shared)))))) (.node 164 (.node 158 (.node 148 (.node 147 (.leaf 135 Ax.Mode.shared) (.leaf 147 Ax.Mode.shared)) (.node 156 (.leaf 148 Ax.Mode.shared) (.node 157 (.leaf 156 Ax.Mode.shared) (.leaf 157 Ax.Mode.shared)))) (.node 160 (.node 159 (.leaf 158 Ax.Mode.shared) (.leaf 159 Ax.Mode.shared)) (.node 161 (.leaf 160 Ax.Mode.shared) (.node 163 (.leaf 161 Ax.Mode.shared) (.leaf 163 Ax.Mode.shared))))) (.node 187 (.node 170 (.node 169 (.leaf 164 Ax.Mode.shared) (.leaf 169 Ax.Mode.shared)) (.node 182 (.leaf 170 Ax.Mode.shared) (.node 186 (.leaf 182 Ax.Mode.shared) (.leaf 186 Ax.Mode.shared)))) (.node 190 (.node 189 (.leaf 187 Ax.Mode.shared) (.leaf 189 Ax.Mode.shared)) (.node 191 (.leaf 190 Ax.Mode.shared) (.node 214 (.leaf 191 Ax.Mode.shared) (.leaf 214 Ax.Mode.shared))))))) (.node 267 (.node 237 (.node 220 (.node 217 (.node 216 (.leaf 215 Ax.Mode.shared) (.leaf 216 Ax.Mode.shared)) (.node 218 (.leaf 217 Ax.Mode.shared) (.node 219 (.leaf 218 Ax.Mode.shared) (.leaf 219 Ax.Mode.shared)))) (.node 224 (.node 221 (.leaf 220 Ax.Mode.shared) (.leaf 221 Ax.Mode.shared)) (.node 226 (.leaf 224 Ax.Mode.shared) (.node 236 (.leaf 226 Ax.Mode.shared) (.leaf 236 Ax.Mode.shared))))) (.node 254 (.node 251 (.node 244 (.leaf 237 Ax.Mode.shared) (.leaf 244 Ax.Mode.shared)) (.node 252 (.leaf 251 Ax.Mode.shared) (.node 253 (.leaf 252 Ax.Mode.shared) (.leaf 253 Ax.Mode.shared)))) (.node 256 (.node 255 (.leaf 254 Ax.Mode.shared) (.leaf 255 Ax.Mode.shared)) (.node 258 (.leaf 256 Ax.Mode.shared) (.node 266 (.leaf 258 Ax.Mode.shared) (.leaf 266 Ax.Mode.shared)))))) (.node 300 (.node 287 (.node 269 (.node 268 (.leaf 267 Ax.Mode.shared) (.leaf 268 Ax.Mode.shared)) (.node 270 (.leaf 269 Ax.Mode.shared) (.node 271 (.leaf 270 Ax.Mode.shared) (.leaf 271 Ax.Mode.shared)))) (.node 293 (.node 292 (.leaf 287 Ax.Mode.shared) (.leaf 292 Ax.Mode.shared)) (.node 295 (.leaf 293 Ax.Mode.shared) (.node 299 (.leaf 295 Ax.Mode.shared) (.leaf 299 Ax.Mode.shared))))) (.node 308 (.node 302 (.node 301 (.leaf 300 Ax.Mode.shared) (.leaf 301 Ax.Mode.shared)) (.node 303 (.leaf 302 Ax.Mode.shared) (.node 307 (.leaf 303 Ax.Mode.shared) (.leaf 307 Ax.Mode.shared)))) (.node 323 (.node 309 (.leaf 308 Ax.Mode.shared) (.node 319 (.leaf 309 Ax.Mode.shared) (.leaf 319 Ax.Mode.shared))) (.node 324 (.leaf 323 Ax.Mode.shared) (.node 335 (.leaf 324 Ax.Mode.shared) (.leaf 335 Ax.Mode.shared))))))))
def PJ:BT (List V->Sg->Option (V × Sg)):=(.node 121 (.node 88 (.leaf 73 (pP 9)) (.node 107 (.leaf 88 (sP 9 [127,323] [256])) (.leaf 107 (lJ 51 [148] [] 109)))) (.node 314 (.leaf 121 Lv) (.node 316 (.leaf 314 BR) (.leaf 316 (Lu 5)))))
noncomputable def ground:Ax.Ground Tryz.prog:={ ty:=NP,fn:=LB,mode:=RL,hspec:=PJ,eqs:=TO,gl:=E2,DR:=λt=>Nat.beq t 264 }
noncomputable def sp0:BT (List V->Option V):=(.node 263 (.node 179 (.leaf 155 pB) (.leaf 179 lQ)) (.node 304 (.leaf 263 kX) (.leaf 304 xV)))
def CH:List V:=[.str [122],.int .i64 5,.bS false [[.str [121]]] true,.aF,.int .i64 0]
def I0:List (List V):=[CH]
def K1:List V:=[.str [99],.bS false [[.str [121]]] true,.bS false [[.str [122]]] true,.bS false [[.str [97]]] true,.bS false I0 true]
def q19:List V:=[.str [120],.int .i64 5,.bS false [[.str [115]]] true,.aF,.int .i64 0]
def q20:List (List V):=[q19]
def q21:List V:=[.str [97],.bS false [[.str [115]]] true,.bS false [[.str [120]]] true,.aF,.bS false q20 true]
def q23:List V:=[.str [121],.int .i64 5,.bS false [[.str [120]]] true,.aF,.int .i64 0]
def q24:List (List V):=[q23]
def q25:List V:=[.str [98],.bS false [[.str [120]]] true,.bS false [[.str [121]]] true,.aF,.bS false q24 true]
def IZ:List (List V):=[K1,q21,q25]
def XP:List V:=[.str [122],.int .i64 5,.bS false [[.str [121]]] false,.aF,.int .i64 0]
def XO:List (List V):=[XP]
def q29:List V:=[.str [99],.bS false [[.str [121]]] false,.bS false [[.str [122]]] false,.bS false [[.str [97]]] false,.bS false XO false]
def q30:List V:=[.str [120],.int .i64 5,.bS false [[.str [115]]] false,.aF,.int .i64 0]
def q31:List (List V):=[q30]
def q32:List V:=[.str [97],.bS false [[.str [115]]] false,.bS false [[.str [120]]] false,.aF,.bS false q31 false]
def q33:List V:=[.str [121],.int .i64 5,.bS false [[.str [120]]] false,.aF,.int .i64 0]
def q34:List (List V):=[q33]
def q35:List V:=[.str [98],.bS false [[.str [120]]] false,.bS false [[.str [121]]] false,.aF,.bS false q34 false]
def q36:List (V × V):=[(.str [99],.agg q29),(.str [97],.agg q32),(.str [98],.agg q35)]
def q37:List (V × V):=[(.str [122],.str [99]),(.str [120],.str [97]),(.str [121],.str [98])]
def q45:List (V × V):=[(.agg [.bool true,.str [99]],.bool true),(.agg [.bool false,.str [121]],.bool true),(.agg [.bool false,.str [122]],.bool true),(.agg [.bool true,.str [97]],.bool true),(.agg [.bool false,.str [115]],.bool true),(.agg [.bool false,.str [120]],.bool true),(.agg [.bool true,.str [98]],.bool true)]
def q46:List V:=[.imp false q45]
def q48:List V:=[.imp false [(.agg [.bool false,.str [121]],.bool true)]]
def q50:List V:=[.imp false [(.agg [.bool true,.str [99]],.bool true)]]
def q52:List V:=[.imp false [(.agg [.bool false,.str [115]],.bool true)]]
def q54:List V:=[.imp false [(.agg [.bool true,.str [97]],.bool true)]]
def q56:List V:=[.imp false [(.agg [.bool false,.str [120]],.bool true)]]
def q58:List V:=[.imp false [(.agg [.bool true,.str [98]],.bool true)]]
def q59:List (V × V):=[(.agg [.bool true,.str [99]],.cL false q48),(.agg [.bool false,.str [122]],.cL false q50),(.agg [.bool true,.str [97]],.cL false q52),(.agg [.bool false,.str [120]],.cL false q54),(.agg [.bool true,.str [98]],.cL false q56),(.agg [.bool false,.str [121]],.cL false q58)]
def q61:List V:=[.imp false [(.agg [.bool false,.str [122]],.bool true)]]
def q62:List (V × V):=[(.agg [.bool false,.str [121]],.cL false q50),(.agg [.bool true,.str [99]],.cL false q61),(.agg [.bool false,.str [115]],.cL false q54),(.agg [.bool true,.str [97]],.cL false q56),(.agg [.bool false,.str [120]],.cL false q58),(.agg [.bool true,.str [98]],.cL false q48)]
def TB:List V:=[.imp false q36,.imp false q37,.cL false q46,.imp false q59,.imp false q62]
def q71:List V:=[.str [116],.int .i64 3,.bS true [[.str [97]]] true,.aF,.int .i64 0]
def q74:List V:=[.str [120],.int .i64 4,.bS true [[.str [116]]] true,.aF,.int .i64 0]
def q76:List V:=[.str [121],.int .i64 2,.bS true [[.str [98]]] true,.aF,.int .i64 0]
def q77:List (List V):=[q71,q74,q76]
def Wc:List V:=[.str [114],.bS true [[.str [97]],[.str [98]]] true,.bS true [[.str [120]],[.str [121]]] true,.aF,.bS true q77 true]
def XN:List (List V):=[Wc]
def q80:List V:=[.str [97],.int .i64 1,.bS true [[.str [120]]] true,.aF,.int .i64 0]
def q81:List (List V):=[q80]
def q82:List V:=[.str [115],.bS true [[.str [120]]] true,.bS true [[.str [97]]] true,.aF,.bS true q81 true]
def q83:List (List V):=[q82,Wc]
def q93:List (V × V):=[(.str [99],.bS false [[.str [97]],[.str [98]]] false),(.str [97],.aF),(.str [98],.bS false [[.str [97]]] false)]
def XV:List (List V):=[[.bool true,.str [50,10]],[.bool false,.str []]]
def XU:List (List V):=[[.bool false,.str []],[.bool true,.str [122]]]
def XT:List Nat:=[114,117,108,101,32,114,32,123,32,105,110,32,98,44,32,97,59,32,111,117,116,32,120,59,32,35,32,110,111,10,32,120,32,61,32,115,101,108,101,99,116,32,34,113,92,110,34,32,97,59,32,125]
def XS:List V:=[.int .i64 1,.int .i64 0,.str [114,117,108,101]]
def q171:List V:=[.str [120],.int .i64 7,.bS false [[.str [97]]] true,.bS false [[.str [113,10]]] true,.int .i64 0]
def q172:List (List V):=[q171]
def q173:List V:=[.str [114],.bS false [[.str [98]],[.str [97]]] false,.bS false [[.str [120]]] true,.aF,.bS false q172 false]
def XR:List (List V):=[q173]
def OK:List V:=[.cL false TB]
def q188:List (V × V):=[(.str [97],.bool true),(.str [98],.bool true)]
def XQ:List (V × V):=[(.str [97],.imp false []),(.str [98],.imp false [(.str [97],.bool true)]),(.str [99],.imp false q188)]
def t262:List (List V × V):=[([.int .i32 99],.bool true),([.int .i32 121],.bool true),([.int .i32 122],.bool true),([.int .i32 97],.bool true),([.int .i32 115],.bool true),([.int .i32 120],.bool true),([.int .i32 98],.bool true),([.int .i32 114],.bool true),([.int .i32 116],.bool true),([.int .i32 46],.bool true)]
noncomputable def QS:=sp0.put 262 (bO t262)
def t233:List (List V × V):=[([.str [99]],.bool false),([.str [121]],.bool false),([.str [122]],.bool false),([.str [97]],.bool false),([.str [115]],.bool false),([.str [120]],.bool false),([.str [98]],.bool false),([.str [114]],.bool false),([.str [116]],.bool false),([.str [98,46,99]],.bool false),([.str []],.bool true)]
noncomputable def GC:=QS.put 233 (bO t233)
def t193:List (List V × V):=[([.str [99]],.bool true),([.str [121]],.bool true),([.str [122]],.bool true),([.str [97]],.bool true),([.str [115]],.bool true),([.str [120]],.bool true),([.str [98]],.bool true),([.str [114]],.bool true),([.str [116]],.bool true),([.str [105,110]],.bool false),([.str [97,47,99]],.bool true),([.str [97,47,98,46,99]],.bool true),([.str [97,47,47,98]],.bool false),([.str [114,117,108,101]],.bool false)]
noncomputable def IX:=GC.put 193 (bO t193)
def t206:List (List V × V):=[([.str [99]],.bool false),([.str [121]],.bool false),([.str [122]],.bool false),([.str [97]],.bool false),([.str [115]],.bool false),([.str [120]],.bool false),([.str [98]],.bool false),([.str [114]],.bool false),([.str [116]],.bool false)]
noncomputable def sp4:=IX.put 206 (bO t206)
def t144:List (List V × V):=[([.agg CH],.bool true),([.agg q19],.bool true),([.agg q23],.bool true),([.agg q71],.bool true),([.agg q74],.bool true),([.agg q76],.bool true),([.agg q80],.bool true)]
noncomputable def Kt:=sp4.put 144 (bO t144)
def t209:List (List V × V):=[([.bS false [[.str [121]]] true],.bool false),([.bS false [[.str [122]]] true],.bool false),([.bS false [[.str [97]]] true],.bool false),([.bS false [[.str [115]]] true],.bool false),([.bS false [[.str [120]]] true],.bool false),([.aF],.bool false),([.bS true [[.str [97]],[.str [98]]] true],.bool false),([.bS true [[.str [120]],[.str [121]]] true],.bool false),([.bS true [[.str [120]]] true],.bool false),([.bS true [[.str [97]]] true],.bool false)]
noncomputable def sp6:=Kt.put 209 (bO t209)
def t143:List (List V × V):=[([.agg K1],.int .i64 0),([.agg q21],.int .i64 0),([.agg q25],.int .i64 0),([.agg Wc],.int .i64 0),([.agg q82],.int .i64 0)]
noncomputable def Ww:=sp6.put 143 (bO t143)
def t115:List (List V × V):=[([.bS true IZ true],.gR [.int .i64 0,.str []]),([.bS true XN true],.gR [.int .i64 0,.str []]),([.bS true q83 true],.gR [.int .i64 0,.str []])]
noncomputable def sp8:=Ww.put 115 (bO t115)
def t154:List (List V × V):=[([.bS true IZ true],.imp false q93),([.bS true XN true],.imp false [(.str [114],.aF)]),([.bS true q83 true],.imp false [(.str [115],.bS false [[.str [114]]] false),(.str [114],.bS false [[.str [115]]] false)])]
noncomputable def sp9:=sp8.put 154 (bO t154)
def t116:List (List V × V):=[([.bS true IZ true],.aF),([.bS true XN true],.aF),([.bS true q83 true],.bS false [[.str [114]],[.str [115]]] false)]
noncomputable def Rj:=sp9.put 116 (bO t116)
def t61:List (List V × V):=[([.bS true IZ true],.gR [.int .i64 0,.str []]),([.bS true XN true],.gR [.int .i64 0,.str []]),([.bS true q83 true],.gR [.int .i64 3,.str [114]])]
noncomputable def Um:=Rj.put 61 (bO t61)
def t62:List (List V × V):=[([.agg K1],.agg q29),([.agg q21],.agg q32),([.agg q25],.agg q35)]
noncomputable def Of:=Um.put 62 (bO t62)
def t13:List (List V × V):=[([.bS true IZ true],.cL false TB)]
noncomputable def Oe:=Of.put 13 (bO t13)
def t72:List (List V × V):=[([.bS true IZ true],.imp false q93)]
noncomputable def Od:=Oe.put 72 (bO t72)
def t23:List (List V × V):=[([.bS true IZ true],.bS false [[.str [97]],[.str [98]],[.str [99]]] false)]
noncomputable def Rh:=Od.put 23 (bO t23)
def t25:List (List V × V):=[([.bS true IZ true],.bS false [[.bS false [[.str [97]]] false],[.bS false [[.str [98]]] false],[.bS false [[.str [99]]] false]] false)]
noncomputable def Rf:=Rh.put 25 (bO t25)
def t82:List (List V × V):=[([.bS true IZ true],.imp false XQ)]
noncomputable def Re:=Rf.put 82 (bO t82)
def t87:List (List V × V):=[([.bS true IZ true,.imp false XQ,.agg K1,.str [97]],.bool true)]
noncomputable def Oc:=Re.put 87 (bO t87)
def t32:List (List V × V):=[([.bS true IZ true,.str [99],.str [97]],.bool true)]
noncomputable def Rc:=Oc.put 32 (bO t32)
def t28:List (List V × V):=[([.bS true IZ true],.bS false [[.str [99],.bS false [[.str [121]]] true,.bS false [[.str [122]]] true,.bS false [] false,.bS false I0 true],q21,q25] false)]
noncomputable def Ul:=Rc.put 28 (bO t28)
def t133:List (List V × V):=[([.agg Wc,.bS true [[.bool true,.str [113,10,112]],[.bool true,.str []]] true],.bS false XV false),([.agg Wc,.bS true XU false],.bS false XU false),([.agg Wc,.bS true [[.bool true,.str [50,10,49]],[.bool false,.str []]] false],.bS false XV false)]
noncomputable def Uk:=Ul.put 133 (bO t133)
def t136:List (List V × V):=[([.bS true XN true,.cL true [.imp true [(.str [97],.str [50,10,49])]],.bS true [[.str [120]],[.str [97]],[.str [121]]] true],.bS false [[.bool true,.str [50,10]],[.bool true,.str [50,10,49]],[.bool false,.str []]] true)]
noncomputable def Uj:=Uk.put 136 (bO t136)
def t196:List (List V × V):=[([.str [97,32,34,92,120,52,49,34,32,59]],.gR [.bS false [[.int .i64 1,.int .i64 0,.str [97]],[.int .i64 2,.int .i64 2,.str [65]],[.int .i64 3,.int .i64 9,.str [59]],[.int .i64 4,.int .i64 10,.str []]] false,.agg [.int .i64 0,.int .i64 0]]),([.str XT],.gR [.bS false [XS,[.int .i64 1,.int .i64 5,.str [114]],[.int .i64 3,.int .i64 7,.str [123]],[.int .i64 1,.int .i64 9,.str [105,110]],[.int .i64 1,.int .i64 12,.str [98]],[.int .i64 3,.int .i64 13,.str [44]],[.int .i64 1,.int .i64 15,.str [97]],[.int .i64 3,.int .i64 16,.str [59]],[.int .i64 1,.int .i64 18,.str [111,117,116]],[.int .i64 1,.int .i64 22,.str [120]],[.int .i64 3,.int .i64 23,.str [59]],[.int .i64 1,.int .i64 31,.str [120]],[.int .i64 3,.int .i64 33,.str [61]],[.int .i64 1,.int .i64 35,.str [115,101,108,101,99,116]],[.int .i64 2,.int .i64 42,.str [113,10]],[.int .i64 1,.int .i64 48,.str [97]],[.int .i64 3,.int .i64 49,.str [59]],[.int .i64 3,.int .i64 51,.str [125]],[.int .i64 4,.int .i64 52,.str []]] false,.agg [.int .i64 0,.int .i64 0]]),([.str [114,117,108,101,32,105,110,32,123]],.gR [.bS false [XS,[.int .i64 1,.int .i64 5,.str [105,110]],[.int .i64 3,.int .i64 8,.str [123]],[.int .i64 4,.int .i64 9,.str []]] false,.agg [.int .i64 0,.int .i64 0]])]
noncomputable def Rb:=Uj.put 196 (bO t196)
def t197:List (List V × V):=[([.str XT],.gR [.bS false XR false,.agg [.int .i64 0,.int .i64 0]]),([.str [114,117,108,101,32,105,110,32,123]],.gR [.aF,.agg [.int .i64 1,.int .i64 5]])]
noncomputable def Ui:=Rb.put 197 (bO t197)
def t200:List (List V × V):=[([.bS false XR false],.str [114,117,108,101,32,114,32,123,10,32,32,105,110,32,97,44,32,98,59,10,32,32,111,117,116,32,120,59,10,32,32,120,32,61,32,115,101,108,101,99,116,32,34,113,92,110,34,32,97,59,10,125,10])]
noncomputable def Ra:=Ui.put 200 (bO t200)
def t238:List (List V × V):=[([],.bool true)]
noncomputable def Uh:=Ra.put 238 (bO t238)
def t171:List (List V × V):=[([],.bool true)]
noncomputable def Ug:=Uh.put 171 (bO t171)
def t106:List (List V × V):=[([],.bool true)]
noncomputable def Uf:=Ug.put 106 (bO t106)
def t70:List (List V × V):=[([.cL false TB,.int .i64 1,.fn 58 OK [],.bS false [[.bool false,.str [122]]] true],.bS false [[.bool false,.str [122]],[.bool true,.str [99]]] false),([.cL false TB,.int .i64 (-1),.fn 71 OK [],.bS false [[.bool false,.str [121]]] true],.bS false [[.bool false,.str [121]],[.bool false,.str [122]],[.bool true,.str [99]]] false),([.cL false TB,.int .i64 (-1),.fn 58 OK [],.bS true [[.bool false,.str [121]]] false],.bS false [[.bool false,.str [115]],[.bool false,.str [120]],[.bool false,.str [121]],[.bool true,.str [97]],[.bool true,.str [98]]] false),([.cL false TB,.int .i64 (-1),.fn 58 OK [],.bS false [[.bool false,.str [122]]] true],.bS false [[.bool false,.str [115]],[.bool false,.str [120]],[.bool false,.str [121]],[.bool false,.str [122]],[.bool true,.str [97]],[.bool true,.str [98]],[.bool true,.str [99]]] false),([.cL false TB,.int .i64 (-1),.fn 71 OK [],.bS false [[.bool false,.str [120]]] true],.bS false [[.bool false,.str [120]],[.bool false,.str [121]],[.bool false,.str [122]],[.bool true,.str [98]],[.bool true,.str [99]]] false)]
noncomputable def Ue:=Uf.put 70 (bO t70)
def t96:List (List V × V):=[([.cL false TB,.bS true [[.bool false,.str [120]]] true],.imp false [(.agg [.bool false,.str [120]],.int .i64 0),(.agg [.bool true,.str [98]],.int .i64 1),(.agg [.bool false,.str [121]],.int .i64 2),(.agg [.bool true,.str [99]],.int .i64 3),(.agg [.bool false,.str [122]],.int .i64 4)])]
noncomputable def WB:=Ue.put 96 (bO t96)
def t11:List (List V × V):=[([],.bool true)]
end Go.Proofs.YtmhchflckonklaaGreatDoor
end
