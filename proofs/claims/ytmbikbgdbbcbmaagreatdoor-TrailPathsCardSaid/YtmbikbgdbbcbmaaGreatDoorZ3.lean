/- Part 3 of the proof. -/
import Derived.Test.YtmbikbgdbbcbmaaGreatDoorY
import Derived.Test.YtmbikbgdbbcbmaaGreatDoorZ2
import Derived.Test.YtmbikbgdbbcbmaaGreatDoorProg
import Derived.KernelRfl
set_option maxHeartbeats 8000000
set_option linter.unusedVariables false
section
namespace Go.Proofs.YtmbikbgdbbcbmaaGreatDoor
open Go Go.Ax
noncomputable def Ou:BT Ty:=BT.MW (RO Tryz.prog) 9 0
theorem Hj:Ou.Aj (wT Tryz.prog):=by unfold Ou;exact BT.B9 (g:=RO Tryz.prog) (p:=wT Tryz.prog) (λ_ _ h=>RN h) 9 0
theorem noGo:(Tryz.prog.funcs.all λfn=>!(fn.name == "runtime.NumGoroutine"))=true:=by kernel_rfl
noncomputable def Me:BT Ax.Fn:=BT.MW (Tl Tryz.prog) 9 0
theorem IG:Me.Aj (KT Tryz.prog):=by unfold Me;exact BT.B9 (g:=Tl Tryz.prog) (p:=KT Tryz.prog) (λ_ _ h=>Tk noGo h) 9 0
def ty5:Ty:={ kd:=.int .u8,size:=1,bytes:=1,zero:=.int .u8 0 }
def dG:Ty:={ kd:=.str,size:=1,bytes:=16,zero:=.str [] }
def cE:Ty:={ kd:=.jT [(0,4),(1,9)],size:=2,bytes:=24,zero:=.agg [.bool false,.str []] }
def tY:Ty:={ kd:=.map 9 4,size:=1,bytes:=8,zero:=.bX }
theorem abW:jH Tryz.prog 7 [.int .i64,.int .i64,.bool,.int .u8]:=jH.of Tryz.underlying7 (by kernel_rfl) (by kernel_rfl) (.cons 0 _ _ _ _ _ (by decide) rfl Tryz.underlying2 rfl (.cons 1 _ _ _ _ _ (by decide) rfl Tryz.underlying3 rfl (.cons 2 _ _ _ _ _ (by decide) rfl Tryz.underlying4 rfl (.cons 3 _ _ _ _ _ (by decide) rfl Tryz.underlying6 rfl (.nil 4)))))
theorem abV:jH Tryz.prog 8 [.int .i64,.int .i64,.bool,.int .u8]:=jH.of Tryz.underlying8 (by kernel_rfl) (by kernel_rfl) (.cons 0 _ _ _ _ _ (by decide) rfl Tryz.underlying2 rfl (.cons 1 _ _ _ _ _ (by decide) rfl Tryz.underlying3 rfl (.cons 2 _ _ _ _ _ (by decide) rfl Tryz.underlying4 rfl (.cons 3 _ _ _ _ _ (by decide) rfl Tryz.underlying6 rfl (.nil 4)))))
theorem WC:jH Tryz.prog 50 [.bool,.str]:=jH.of Tryz.underlying50 (by kernel_rfl) (by kernel_rfl) (.cons 0 _ _ _ _ _ (by decide) rfl Tryz.underlying4 rfl (.cons 1 _ _ _ _ _ (by decide) rfl Tryz.underlying9 rfl (.nil 2)))
theorem WB:jH Tryz.prog 51 [.bool,.str]:=jH.of Tryz.underlying51 (by kernel_rfl) (by kernel_rfl) (.cons 0 _ _ _ _ _ (by decide) rfl Tryz.underlying4 rfl (.cons 1 _ _ _ _ _ (by decide) rfl Tryz.underlying9 rfl (.nil 2)))
theorem Tz:jH Tryz.prog 158 [.bool,.str]:=jH.of Tryz.underlying158 (by kernel_rfl) (by kernel_rfl) (.cons 0 _ _ _ _ _ (by decide) rfl Tryz.underlying4 rfl (.cons 1 _ _ _ _ _ (by decide) rfl Tryz.underlying9 rfl (.nil 2)))
theorem Tx:jH Tryz.prog 159 [.bool,.str]:=jH.of Tryz.underlying159 (by kernel_rfl) (by kernel_rfl) (.cons 0 _ _ _ _ _ (by decide) rfl Tryz.underlying4 rfl (.cons 1 _ _ _ _ _ (by decide) rfl Tryz.underlying9 rfl (.nil 2)))
theorem Tw:jH Tryz.prog 163 [.str,.str]:=jH.of Tryz.underlying163 (by kernel_rfl) (by kernel_rfl) (.cons 0 _ _ _ _ _ (by decide) rfl Tryz.underlying9 rfl (.cons 1 _ _ _ _ _ (by decide) rfl Tryz.underlying9 rfl (.nil 2)))
theorem Tv:jH Tryz.prog 164 [.str,.str]:=jH.of Tryz.underlying164 (by kernel_rfl) (by kernel_rfl) (.cons 0 _ _ _ _ _ (by decide) rfl Tryz.underlying9 rfl (.cons 1 _ _ _ _ _ (by decide) rfl Tryz.underlying9 rfl (.nil 2)))
theorem Tu:jH Tryz.prog 220 [.int .i64,.int .i64]:=jH.of Tryz.underlying220 (by kernel_rfl) (by kernel_rfl) (.cons 0 _ _ _ _ _ (by decide) rfl Tryz.underlying64 rfl (.cons 1 _ _ _ _ _ (by decide) rfl Tryz.underlying3 rfl (.nil 2)))
theorem Tt:jH Tryz.prog 221 [.int .i64,.int .i64]:=jH.of Tryz.underlying221 (by kernel_rfl) (by kernel_rfl) (.cons 0 _ _ _ _ _ (by decide) rfl Tryz.underlying64 rfl (.cons 1 _ _ _ _ _ (by decide) rfl Tryz.underlying3 rfl (.nil 2)))
theorem Ts:jH Tryz.prog 226 [.int .i64,.int .i64,.str]:=jH.of Tryz.underlying226 (by kernel_rfl) (by kernel_rfl) (.cons 0 _ _ _ _ _ (by decide) rfl Tryz.underlying3 rfl (.cons 1 _ _ _ _ _ (by decide) rfl Tryz.underlying3 rfl (.cons 2 _ _ _ _ _ (by decide) rfl Tryz.underlying9 rfl (.nil 3))))
theorem Tr:jH Tryz.prog 227 [.int .i64,.int .i64,.str]:=jH.of Tryz.underlying227 (by kernel_rfl) (by kernel_rfl) (.cons 0 _ _ _ _ _ (by decide) rfl Tryz.underlying3 rfl (.cons 1 _ _ _ _ _ (by decide) rfl Tryz.underlying3 rfl (.cons 2 _ _ _ _ _ (by decide) rfl Tryz.underlying9 rfl (.nil 3))))
theorem Tq:jH Tryz.prog 313 [.int .u8,.int .u8]:=jH.of Tryz.underlying313 (by kernel_rfl) (by kernel_rfl) (.cons 0 _ _ _ _ _ (by decide) rfl Tryz.underlying5 rfl (.cons 1 _ _ _ _ _ (by decide) rfl Tryz.underlying5 rfl (.nil 2)))
theorem Tp:jH Tryz.prog 314 [.int .u8,.int .u8]:=jH.of Tryz.underlying314 (by kernel_rfl) (by kernel_rfl) (.cons 0 _ _ _ _ _ (by decide) rfl Tryz.underlying5 rfl (.cons 1 _ _ _ _ _ (by decide) rfl Tryz.underlying5 rfl (.nil 2)))
theorem To:jH Tryz.prog 339 [.str]:=jH.of Tryz.underlying339 (by kernel_rfl) (by kernel_rfl) (.cons 0 _ _ _ _ _ (by decide) rfl Tryz.underlying9 rfl (.nil 1))
theorem Tn:jH Tryz.prog 340 [.str]:=jH.of Tryz.underlying340 (by kernel_rfl) (by kernel_rfl) (.cons 0 _ _ _ _ _ (by decide) rfl Tryz.underlying9 rfl (.nil 1))
def UI:BT (List Kd):=(.node 220 (.node 158 (.node 50 (.node 8 (.leaf 7 [.int .i64,.int .i64,.bool,.int .u8]) (.leaf 8 [.int .i64,.int .i64,.bool,.int .u8])) (.node 51 (.leaf 50 [.bool,.str]) (.leaf 51 [.bool,.str]))) (.node 163 (.node 159 (.leaf 158 [.bool,.str]) (.leaf 159 [.bool,.str])) (.node 164 (.leaf 163 [.str,.str]) (.leaf 164 [.str,.str])))) (.node 313 (.node 226 (.node 221 (.leaf 220 [.int .i64,.int .i64]) (.leaf 221 [.int .i64,.int .i64])) (.node 227 (.leaf 226 [.int .i64,.int .i64,.str]) (.leaf 227 [.int .i64,.int .i64,.str]))) (.node 339 (.node 314 (.leaf 313 [.int .u8,.int .u8]) (.leaf 314 [.int .u8,.int .u8])) (.node 340 (.leaf 339 [.str]) (.leaf 340 [.str])))))
theorem IP:UI.Aj (jH Tryz.prog):=⟨⟨⟨⟨abW,abV⟩,⟨WC,WB⟩⟩,⟨⟨Tz,Tx⟩,⟨Tw,Tv⟩⟩⟩,⟨⟨⟨Tu,Tt⟩,⟨Ts,Tr⟩⟩,⟨⟨Tq,Tp⟩,⟨To,Tn⟩⟩⟩⟩
end Go.Proofs.YtmbikbgdbbcbmaaGreatDoor
end
section
namespace Go.AxS
open Go Go.Ax
theorem CM:∀s,slt s s=false
 | []=>rfl
 |a::s=>by rw[yN];simp[CM s]
theorem EL:∀s t u,slt s t=true->slt t u=true->slt s u=true
 |_,[],_,h,_=>by cases ‹List Nat› <;> simp[slt]at h
 |_,_::_,[],_,h=>by simp[slt]at h
 | [],b::t,c::u,_,_=>rfl
 |a::s,b::t,c::u,h1,h2=>by
  rw[yN]at h1 h2 ⊢;simp only[fl,ai,aa]at h1 h2 ⊢;rcases h1 with h1 | ⟨rfl,h1⟩
  ·rcases h2 with h2 | ⟨rfl,h2⟩
   ·exact .inl (by omega)
   ·exact .inl h1
  ·rcases h2 with h2 | ⟨rfl,h2⟩
   ·exact .inl h2
   ·exact .inr ⟨rfl,EL s t u h1 h2⟩
theorem EM:∀s t,slt s t=false->slt t s=false->s=t
 | [],[],_,_=>rfl
 | [],_::_,h,_=>by simp[slt]at h
 |_::_,[],_,h=>by simp[slt]at h
 |a::s,b::t,h1,h2=>by
  rw[yN]at h1 h2;simp only[Bool.or_eq_false_iff,Bool.and_eq_false_iff,decide_eq_false_iff_not]at h1 h2;have e:a=b:=by omega
  subst e;rw[EM s t (h1.2.resolve_left (λh=>h rfl)) (h2.2.resolve_left (λh=>h rfl))]
theorem lF:∀s t:List Nat,Ax.seq s t=true ↔ s=t
 | [],[]=>by simp[Ax.seq]
 | [],_::_=>by simp[Ax.seq]
 |_::_,[]=>by simp[Ax.seq]
 |a::s,b::t=>by rw[CO];simp[lF s t]
theorem yT (s t:List Nat):Ax.seq s t=decide (s=t):=by
 rw[e8,lF];simp
abbrev aC:=Bool × List Nat
def row (x:aC):List V:=[.bool x.1,.str x.2]
def lt (x y:aC):Bool:=match x.1,y.1 with
 |false,true=>true
 |true,false=>false
 |_,_=>slt x.2 y.2
theorem V4 (x y:aC):pY (row x) (row y)=lt x y:=by
 obtain⟨a,s⟩:=x;obtain⟨b,t⟩:=y;cases a <;> cases b <;> rfl
theorem lt_irrefl (x:aC):lt x x=false:=by
 obtain⟨a,s⟩:=x;cases a <;> exact CM s
theorem lt_trans (x y z:aC)(h1:lt x y=true)(h2:lt y z=true):lt x z=true:=by
 obtain⟨a,s⟩:=x;obtain⟨b,t⟩:=y;obtain⟨c,u⟩:=z;cases a <;> cases b <;> cases c <;> simp only[lt]at h1 h2 ⊢ <;> first | exact EL _ _ _ h1 h2 | rfl | exact absurd h1 Bool.false_ne_true | exact absurd h2 Bool.false_ne_true
theorem Ih (x y:aC)(h1:lt x y=false)(h2:lt y x=false):x=y:=by
 obtain⟨a,s⟩:=x;obtain⟨b,t⟩:=y;cases a <;> cases b <;> simp only[lt]at h1 h2 <;> first | rw[EM _ _ h1 h2] | exact absurd h1.symm Bool.false_ne_true | exact absurd h2.symm Bool.false_ne_true
theorem lt_asymm {x y:aC}(h:lt x y=true):lt y x=false:=by
 cases hy:lt y x with
 |false=>rfl
 |true=>have:=lt_trans _ _ _ h hy;rw[lt_irrefl]at this;cases this
def Up (l:List aC):Prop:=l.Pairwise λx y=>lt x y=true
theorem F5:∀{l m:List aC},Up l->Up m->(∀x,x∈l ↔ x∈m)->l=m
 | [],[],_,_,_=>rfl
 | [],y::m,_,_,h=>by have:=(h y).2 (IN ..);cases this
 |x::l,[],_,_,h=>by have:=(h x).1 (IN ..);cases this
 |x::l,y::m,h1,h2,h=>by
  rw[Up,js]at h1 h2
  have e:x=y:=by
   rcases IT.1 ((h x).1 (IN ..)) with e | hx
   ·exact e
   rcases IT.1 ((h y).2 (IN ..)) with e | hy
   ·exact e.symm
   have:=lt_asymm (h1.1 y hy);rw[h2.1 x hx]at this;cases this
  subst e;rw[F5 h1.2 h2.2 λz=>⟨λhz=>?_,λhz=>?_⟩]
  ·rcases IT.1 ((h z).1 (ae _ hz)) with rfl | hz'
   ·have:=h1.1 z hz;rw[lt_irrefl]at this;cases this
   ·exact hz'
  ·rcases IT.1 ((h z).2 (ae _ hz)) with rfl | hz'
   ·have:=h2.1 z hz;rw[lt_irrefl]at this;cases this
   ·exact hz'
theorem Up.nodup {l:List aC}(h:Up l):l.Nodup:=h.imp λhxy e=>by
 subst e;rw[lt_irrefl]at hxy;cases hxy
def put:List aC->aC->List aC
 | [],x=>[x]
 |y::r,x=>if lt y x=true then y::put r x else if y=x then y::r else x::y::r
theorem zM {x z:aC}:∀{l:List aC},z∈put l x ↔ z∈l\/z=x
 | []=>by simp[put]
 |y::r=>by
  simp only[put];split
  ·rw[IT,zM,IT,or_assoc]
  ·split
   ·rename_i e;subst e;simp only[IT];constructor
    ·intro h;exact .inl h
    ·rintro (h | rfl)
     ·exact h
     ·exact .inl rfl
   ·simp only[IT];constructor
    ·rintro (rfl | h)
     ·exact .inr rfl
     ·exact .inl h
    ·rintro (h | rfl)
     ·exact .inr h
     ·exact .inl rfl
theorem JX {x:aC}:∀{l:List aC},Up l->Up (put l x)
 | [],_=>by simp[put,Up]
 |y::r,h=>by
  have h0:=h;rw[Up,js]at h;simp only[put];split
  ·rename_i hyx;refine js.2 ⟨λz hz=>?_,JX h.2⟩;rcases zM.1 hz with hz | rfl
   ·exact h.1 z hz
   ·exact hyx
  ·rename_i hyx;split
   ·exact h0
   ·rename_i hne
    have hxy:lt x y=true:=by
     cases hc:lt x y with
     |true=>rfl
     |false=>exact absurd (Ih _ _ (by simpa using hyx) hc) hne
    refine js.2 ⟨λz hz=>?_,h0⟩;rcases IT.1 hz with rfl | hz
    ·exact hxy
    ·exact lt_trans _ _ _ hxy (h.1 z hz)
def setOf (l:List aC):List aC:=l.foldl put []
theorem zV:∀(l acc:List aC),Up acc->Up (l.foldl put acc)
 | [],_,h=>h
 |_::l,_,h=>zV l _ (JX h)
theorem wZ {z:aC}:∀(l acc:List aC),z∈l.foldl put acc ↔ z∈acc\/z∈l
 | [],acc=>by simp
 |x::l,acc=>by
  rw[jm,wZ l,zM,IT,or_assoc]
theorem nY (l:List aC):Up (setOf l):=zV l [] List.Pairwise.nil
theorem gR {l:List aC}{z:aC}:z∈setOf l ↔ z∈l:=by
 rw[setOf,wZ];simp
theorem HG {l m:List aC}(h:∀x,x∈l ↔ x∈m):setOf l=setOf m:=F5 (nY l) (nY m) λx=>by rw[gR,gR,h]
theorem Iw (x:aC):∀{l:List aC},Up l->x ∉ l->Dq pY (row x) (l.map row)=(put l x).map row
 | [],_,_=>rfl
 |y::r,h,hx=>by
  rw[Up,js]at h;rw[IT,qm]at hx;simp only[bh,Dq,put,V4];cases hxy:lt x y with
  |true=>
   rw[az rfl,an (by rw[lt_asymm hxy];simp),an (λe=>hx.1 e.symm)];rfl
  |false=>
   have hyx:lt y x=true:=by
    cases hc:lt y x with
    |true=>rfl
    |false=>exact absurd (Ih _ _ hxy hc) hx.1
   rw[an (by simp),az hyx,Iw x h.2 hx.2];rfl
theorem Ft:∀(l acc:List aC),Up acc->l.Nodup->(∀x∈l,x ∉ acc)->(l.map row).foldl (λacc x=>Dq pY x acc) (acc.map row)=(l.foldl put acc).map row
 | [],_,_,_,_=>rfl
 |x::l,acc,h,hn,hd=>by
  rw[dn]at hn;rw[bh,jm,jm,Iw x h (hd x (IN ..))];refine Ft l _ (JX h) hn.2 λz hz hm=>?_;rcases zM.1 hm with hm | rfl
  ·exact hd z (ae _ hz) hm
  ·exact hn.1 hz
theorem As {l:List aC}(hn:l.Nodup):kS pY (l.map row)=(setOf l).map row:=Ft l [] List.Pairwise.nil hn λ_ _ h=>by cases h
theorem sO {l:List aC}(hn:l.Nodup):(setOf l).length=l.length:=by
 suffices ∀(l acc:List aC),l.Nodup->(∀x∈l,x ∉ acc)->(l.foldl put acc).length=acc.length+l.length by
  have:=this l [] hn (λ_ _ h=>by cases h);simpa [setOf]using this
 intro l
 induction l with
 |nil=>intro acc _ _;simp
 |cons x l ih=>
  intro acc hn hd;rw[dn]at hn
  have hp:∀{m:List aC},x ∉ m->(put m x).length=m.length+1:=by
   intro m
   induction m with
   |nil=>intro _;rfl
   |cons y r ihr=>
    intro hx;rw[IT,qm]at hx;simp only[put];split
    ·simp[ihr hx.2]
    ·rw[an (λe=>hx.1 e.symm)];simp
  rw[jm,ih _ hn.2,hp (hd x (IN ..)),af]
  ·omega
  ·intro z hz hm;rcases zM.1 hm with hm | rfl
   ·exact hd z (ae _ hz) hm
   ·exact hn.1 hz
def kE (l:List aC) (x:aC):List aC:=if x∈l then l else l++[x]
def keys (l:List aC) (xs:List aC):List aC:=xs.foldl kE l
theorem Fc {l:List aC}{x z:aC}:z∈kE l x ↔ z∈l\/z=x:=by
 unfold kE;split
 ·rename_i h;constructor
  ·exact .inl
  ·rintro (h' | rfl)
   ·exact h'
   ·exact h
 ·simp
theorem Ip {l:List aC}{x:aC}(h:l.Nodup):(kE l x).Nodup:=by
 unfold kE;split
 ·exact h
 ·rename_i hx;rw[k8];refine⟨h,by simp,?_⟩;intro a ha b hb e;rw[cn]at hb;subst hb;subst e;exact hx ha
theorem mem_keys {z:aC}:∀{xs l:List aC},z∈keys l xs ↔ z∈l\/z∈xs
 | [],l=>by simp[keys]
 |x::xs,l=>by
  show z∈keys (kE l x) xs ↔ _;rw[mem_keys,Fc,IT,or_assoc]
theorem n_:∀{xs l:List aC},(keys l xs).length<=l.length+xs.length
 | [],l=>by simp[keys]
 |x::xs,l=>by
  show (keys (kE l x) xs).length<=_;have:=n_ (xs:=xs) (l:=kE l x);have h2:(kE l x).length<=l.length+1:=by unfold kE;split <;> simp
  simp only[af];omega
end Go.AxS
end
section
namespace Go.AxS
open Go
abbrev bC:=List Nat
structure Step where
 out:bC
 op:Int
 args:List bC
 lits:List bC
 n:Int
structure aD where
 name:bC
 ins:List bC
 outs:List bC
 after:List bC
 steps:List Step
def sign (c:Nat):Bool:=(decide (97<=c)&&decide (c<=122))||((decide (65<=c)&&decide (c<=90))||((decide (48<=c)&&decide (c<=57))||(decide (c=46)||(decide (c=95)||decide (c=45)))))
def sV (p:bC):Bool:=!(decide (p=[])||decide (p=[46])||decide (p=[46,46]))&&p.all sign
def pP (s:bC):Bool:=decide (s=[114,117,108,101])||(decide (s=[105,110])||(decide (s=[111,117,116])||decide (s=[97,102,116,101,114])))
def bI (s:bC):Bool:=!pP s&&decide (s.length<=40)&&(Ax.cP 47 s).all sV
def counts (op:Int):Nat × Nat × Nat:=if op=5 then (0,6,0) else if op=6 then (0,0,1) else if op=7 then (1,1,1) else if op=8 then (1,1,2) else (1,1,0)
def cM (s:Step):Bool:=decide (1<=s.op/\s.op<=9)&&decide ((counts s.op).1<=s.args.length/\s.args.length<=(counts s.op).2.1)&&decide (s.lits.length=(counts s.op).2.2)&&s.lits.all (λl=>decide (l.length<=100))
 && decide (s.op=8->s.lits.head?≠some [])&&decide (0<=s.n/\s.n<=2000)&&decide (s.op=9\/s.n=0)
def k_:List bC->Bool
 | []=>false
 |s::l=>decide (s∈l)||k_ l
def kX (r:aD):Bool:=bI r.name&&decide (r.outs≠[])&&r.ins.all bI&&r.outs.all bI&&r.after.all bI&&r.steps.all λs=>bI s.out&&s.args.all bI&&cM s
def long (r:aD):Bool:=decide (8<r.ins.length)||decide (4<r.outs.length)||decide (8<r.after.length)||decide (12<r.steps.length)
def iJ:List bC->List Step->Bool
 |_,[]=>true
 |known,s::l=>!decide (s.out∈known)&&s.args.all (λa=>decide (a∈known))&&iJ (known++[s.out]) l
def fH (r:aD):Bool:=!k_ r.ins && !k_ r.outs && !k_ r.after && !decide (r.name∈r.after)&&r.outs.all (λo=>!decide (o∈r.ins))&&iJ r.ins r.steps&&r.outs.all λo=>decide (o∈r.ins++r.steps.map Step.out)
def bA (r:aD):Int:=if kX r=false then 1 else if long r=true then 4 else if fH r=false then 2 else 0
def bQ {α:Type} (p:α->Bool):List α->Option Nat
 | []=>none
 |x::l=>if p x=true then some 0 else (bQ p l).map (· + 1)
def fI (rs:List aD) (f:bC):Option Nat:=bQ (λr=>decide (f∈r.outs)) rs
def gE (rs:List aD) (n:bC):Option Nat:=bQ (λr=>decide (r.name=n)) rs
def wF (rs:List aD) (data:Bool) (r:aD) (k:Nat):Bool:=r.ins.any (λf=>decide (fI rs f=some k))||(!data&&r.after.any λn=>decide (gE rs n=some k))
def iO (rs:List aD) (data:Bool) (i k:Nat):Bool:=match rs[i]? with
 |some r=>wF rs data r k
 |none=>false
inductive Way (m:Nat->Nat->Bool):Nat->Nat->Prop
 |one {i k}:m i k=true->Way m i k
 |cons {i j k}:m i j=true->Way m j k->Way m i k
theorem Way.trans {m:Nat->Nat->Bool}{i j k:Nat}(h:Way m i j) (g:Way m j k):Way m i k:=by
 induction h with
 |one h=>exact .cons h g
 |cons h _ ih=>exact .cons h (ih g)
def oW (rs:List aD) (i:Nat):Bool:=match rs[i]? with
 |some r=>(rs.take i).any λq=>decide (q.name=r.name)||r.outs.any λo=>decide (o∈q.outs)
 |none=>false
def tQ (rs:List aD):Bool:=(List.range rs.length).any (oW rs)
def gT (rs:List aD):Bool:=rs.any λr=>r.after.any λn=>decide (gE rs n=none)
def gO (rs:List aD):Int:=match rs.find? λr=>decide (bA r≠0) with
 |some r=>bA r
 |none=>if 40<rs.length then 4 else if tQ rs=true then 2 else if gT rs=true then 2 else 0
def Ring (rs:List aD):Prop:=∃i,i<rs.length/\Way (iO rs false) i i
def Ji (rs:List aD) (e:Int):Prop:=(gO rs≠0/\e=gO rs)\/(gO rs=0/\((Ring rs/\e=3)\/(¬ Ring rs/\e=0)))
def nV (rs:List aD):Prop:=gO rs=0/\¬ Ring rs
theorem Ji.zero {rs:List aD}{e:Int}(h:Ji rs e):e=0 ↔ nV rs:=by
 unfold nV;rcases h with⟨h1,h2⟩ | ⟨h1,⟨h2,h3⟩ | ⟨h2,h3⟩⟩
 ·exact⟨λg=>absurd (h2.symm.trans g) h1,λg=>absurd g.1 h1⟩
 ·exact⟨λg=>by omega,λg=>absurd h2 g.2⟩
 ·exact⟨λ_=>⟨h1,h2⟩,λ_=>h3⟩
end Go.AxS
end
section
namespace Go.Ax
theorem jG {α:Type} [DecidableEq α]:∀{a b:List α},a.Nodup->(∀x∈a,x∈b)->a.length<=b.length
 | [],b,_,_=>ij _
 |x::a,b,hn,h=>by
  obtain⟨hx,ha⟩:=dn.1 hn;have hm:x∈b:=h x (IN ..)
  have:=jG (b:=b.erase x) ha λy hy=>by
   have hne:y≠x:=λe=>hx (e ▸ hy);exact (List.mem_erase_of_ne hne).2 (h y (ae _ hy))
  rw[List.length_erase_of_mem hm]at this;have:0<b.length:=List.length_pos_of_mem hm;rw[af];omega
end Go.Ax
namespace Go.AxS
open Go
def wk (m:Nat->Nat->Bool):Nat->Nat->Nat->Bool
 |0,i,j=>m i j
 |k+1,i,j=>wk m k i j||(wk m k i k&&wk m k k j)
theorem Oi {m:Nat->Nat->Bool} (k j:Nat):wk m (k+1) k j=wk m k k j:=by
 rw[wk];cases wk m k k j <;> simp
theorem Ol {m:Nat->Nat->Bool} (k i:Nat):wk m (k+1) i k=wk m k i k:=by
 rw[wk];cases wk m k i k <;> simp
theorem FZ {m : Nat -> Nat -> Bool} {i j : Nat} : ∀ {k l : Nat}, k <= l -> wk m k i j = true -> wk m l i j = true
  | k, 0, h, e => by obtain rfl : k = 0 := by omega
                     exact e
  | k, l + 1, h, e => by
    rcases cj l k with g | g
    · obtain rfl : k = l + 1 := by omega
      exact e
    · rw [wk, FZ g e]; rfl
theorem yG {m:Nat->Nat->Bool}:∀(k i j l:Nat),j<k->wk m k i j=true->wk m k j l=true->wk m k i l=true
 |0,_,_,_,h,_,_=>absurd h (by omega)
 |k+1,i,j,l,h,a,b=>by
  by_cases hj:j=k
  ·subst hj;rw[Ol]at a;rw[Oi]at b;rw[wk,a,b];simp
  ·have hj:j<k:=by omega
   rw[wk,fl,ai]at a b ⊢;rcases a with a | ⟨a1,a2⟩ <;> rcases b with b | ⟨b1,b2⟩
   ·exact .inl (yG k i j l hj a b)
   ·exact .inr ⟨yG k i j k hj a b1,b2⟩
   ·exact .inr ⟨a1,yG k k j l hj a2 b⟩
   ·exact .inr ⟨a1,b2⟩
theorem Co {m:Nat->Nat->Bool}:∀{k i j:Nat},wk m k i j=true->Way m i j
 |0,_,_,h=>.one h
 |k+1,i,j,h=>by
  rw[wk,fl,ai]at h;rcases h with h | ⟨h1,h2⟩
  ·exact Co h
  ·exact (Co h1).trans (Co h2)
theorem UY {m:Nat->Nat->Bool}{n:Nat}(hm:∀i j,m i j=true->i<n/\j<n) {i j:Nat}(h:Way m i j):wk m n i j=true:=by
 induction h with
 |one h=>exact FZ (ij n) h
 |cons h _ ih=>exact yG n _ _ _ (hm _ _ h).2 (FZ (ij n) h) ih
theorem Way.step {m:Nat->Nat->Bool}{i j:Nat}(h:Way m i j):∃k,m i k=true/\(k=j\/Way m k j):=by
 cases h with
 |one h=>exact⟨_,h,.inl rfl⟩
 |cons h g=>exact⟨_,h,.inr g⟩
def eM (bN:List Int) (i:Nat):Int:=(bN[i]?).getD (-1)
theorem mN {bN:List Int}{i j:Nat}{d:Int}(hi:i<bN.length):eM (bN.set i d) j=if j=i then d else eM bN j:=by
 unfold eM;by_cases h:j=i
 ·subst h;rw[az rfl,bt hi];rfl
 ·rw[an h,No (λe=>h e.symm)]
structure mV (m:Nat->Nat->Bool) (n first d i k:Nat) (bN:List Int):Prop where
 len:bN.length=n
 MW:∀j,j<n->eM bN j = -1\/(0<=eM bN j/\eM bN j<=(d:Int)/\(i<j->eM bN j<(d:Int)))
 zero:∀j,j<n->(eM bN j=0 ↔ j=first)
 down:∀j (e:Nat),j<n->eM bN j=(e:Int)+1->∃l,l<n/\m j l=true/\eM bN l=(e:Int)
 old:∀j l,j<n->l<n->m j l=true->0<=eM bN l->eM bN l+1<(d:Int)->0<=eM bN j
 now:∀j l,j<i->j<n->l<n->m j l=true->eM bN l+1=(d:Int)->0<=eM bN j
 row:∀l,l<k->i<n->l<n->m i l=true->eM bN l+1=(d:Int)->0<=eM bN i
theorem mV.init {m:Nat->Nat->Bool}{n first:Nat}(hf:first<n):mV m n first 1 0 0 ((List.replicate n (-1)).set first 0):=by
 have hl:first<(List.replicate n (-1:Int)).length:=by simpa using hf
 have hg:∀j,j<n->eM ((List.replicate n (-1)).set first 0) j=if j=first then 0 else -1:=λj hj=>by
  rw[mN hl];split
  ·rfl
  ·unfold eM;simp[hj]
 refine⟨by simp,λj hj=>?_,λj hj=>?_,λj e hj h=>?_,λj l hj hl hm h1 h2=>?_,λj l hj=>?_,λl hl=>?_⟩
 ·rw[hg j hj];split
  ·exact .inr ⟨by omega,by omega,λ_=>by omega⟩
  ·exact .inl rfl
 ·rw[hg j hj];split
  ·rename_i h;exact⟨λ_=>h,λ_=>rfl⟩
  ·rename_i h;exact⟨λg=>absurd g (by omega),λg=>absurd g h⟩
 ·rw[hg j hj]at h;split at h <;> omega
 ·omega
 ·omega
 ·omega
theorem mV.skip {m:Nat->Nat->Bool}{n first d i k:Nat}{bN:List Int}(h:mV m n first d i k bN)(hne:¬ (m i k=true/\eM bN k=(d:Int)-1)):mV m n first d i (k+1) bN:=by
 refine⟨h.len,h.MW,h.zero,h.down,h.old,h.now,λl hl hi hln hm e=>?_⟩;rcases cj l k with g | g
 ·exact h.row l g hi hln hm e
 ·obtain rfl:l=k:=by omega
  exact absurd ⟨hm,by omega⟩ hne
theorem mV.put {m:Nat->Nat->Bool}{n first d i k:Nat}{bN:List Int}(h:mV m n first d i k bN)(hi:i<n)(hk:k<n)(hd:1<=d)(hf:eM bN i<0)(hm:m i k=true)(he:eM bN k=(d:Int)-1) :
  mV m n first d i (k+1) (bN.set i (d:Int)):=by
 have hl:i<bN.length:=by rw[h.len];exact hi
 have hi1:eM bN i = -1:=by rcases h.MW i hi with g | ⟨g,_⟩ <;> omega
 have hki:k≠i:=λe=>by subst e;omega
 refine⟨by rw[ec];exact h.len,λj hj=>?_,λj hj=>?_,λj e hj g=>?_,λj l hj hl2 hm2 h1 h2=>?_,λj l hji hj hl2 hm2 h1=>?_,λl hlk hi2 hl2 hm2 h1=>?_⟩
 ·rw[mN hl];split
  ·rename_i e;subst e;exact .inr ⟨by omega,by omega,λg=>by omega⟩
  ·exact h.MW j hj
 ·rw[mN hl];split
  ·rename_i e;subst e;constructor
   ·intro g;omega
   ·intro g;have:=(h.zero j hj).2 g;omega
  ·exact h.zero j hj
 ·rw[mN hl]at g;split at g
  ·rename_i e2;subst e2;exact⟨k,hk,hm,by rw[mN hl,an hki];omega⟩
  ·obtain⟨l,h1,h2,h3⟩:=h.down j e hj g;refine⟨l,h1,h2,?_⟩;rw[mN hl,an]
   ·exact h3
   ·intro e2;subst e2;omega
 ·rw[mN hl]at h1 h2 ⊢;split
  ·omega
  ·split at h1
   ·rename_i e2;rw[az e2]at h2;omega
   ·rename_i e2;rw[an e2]at h2;exact h.old j l hj hl2 hm2 h1 h2
 ·rw[mN hl]at h1 ⊢;split
  ·omega
  ·split at h1
   ·omega
   ·exact h.now j l hji hj hl2 hm2 h1
 ·rw[mN hl,az rfl];omega
theorem mV.next {m:Nat->Nat->Bool}{n first d i k:Nat}{bN:List Int}(h:mV m n first d i k bN)(hk:k=n\/0<=eM bN i)(hi:i<n):mV m n first d (i+1) 0 bN:=by
 refine⟨h.len,λj hj=>?_,h.zero,h.down,h.old,λj l hj hjn hl hm e=>?_,λl hl=>by omega⟩
 ·rcases h.MW j hj with g | ⟨g1,g2,g3⟩
  ·exact .inl g
  ·exact .inr ⟨g1,g2,λg=>g3 (by omega)⟩
 ·rcases cj j i with g | g
  ·exact h.now j l g hjn hl hm e
  ·obtain rfl:j=i:=by omega
   rcases hk with rfl | hk
   ·exact h.row l hl hjn hl hm e
   ·exact hk
theorem mV.round {m:Nat->Nat->Bool}{n first d:Nat}{bN:List Int}(h:mV m n first d n 0 bN):mV m n first (d+1) 0 0 bN:=by
 refine⟨h.len,λj hj=>?_,h.zero,h.down,λj l hj hl hm h1 h2=>?_,λj l hj=>by omega,λl hl=>by omega⟩
 ·rcases h.MW j hj with g | ⟨g1,g2,_⟩
  ·exact .inl g
  ·exact .inr ⟨g1,by omega,λ_=>by omega⟩
 ·rcases cj ((eM bN l+1).toNat) d with g | g
  ·exact h.old j l hj hl hm h1 (by omega)
  ·exact h.now j l hj hj hl hm (by omega)
theorem mV.small {m:Nat->Nat->Bool}{n first d:Nat}{bN:List Int}(h:mV m n first d 0 0 bN) {j:Nat}(hj:j<n):eM bN j<(n:Int):=by
 have chain:∀(e:Nat) (j:Nat),j<n->eM bN j=(e:Int)->∃l:List Nat,l.length=e+1/\l.Nodup/\∀x∈l,x<n/\0<=eM bN x/\eM bN x<=(e:Int):=by
  intro e
  induction e with
  |zero=>intro j hj he;exact⟨[j],rfl,by simp,λx hx=>by simp at hx;subst hx;exact⟨hj,by omega,by omega⟩⟩
  |succ e ih=>
   intro j hj he;obtain⟨k,hk,_,hk2⟩:=h.down j e hj (by omega);obtain⟨l,h1,h2,h3⟩:=ih k hk hk2;refine⟨j::l,by simp[h1],dn.2 ⟨λhm=>?_,h2⟩,λx hx=>?_⟩
   ·have:=(h3 j hm).2.2;omega
   ·rcases IT.1 hx with rfl | hx
    ·exact⟨hj,by omega,by omega⟩
    ·obtain⟨a,b,c⟩:=h3 x hx;exact⟨a,b,by omega⟩
 rcases h.MW j hj with g | ⟨g,_⟩
 ·omega
 ·obtain⟨l,h1,h2,h3⟩:=chain (eM bN j).toNat j hj (by omega);have:l.length<=(List.range n).length:=Ax.jG h2 λx hx=>kj.2 (h3 x hx).1;rw[qg]at this;omega
theorem mV.closed {m:Nat->Nat->Bool}{n first:Nat}{bN:List Int}(h:mV m n first (n+1) 0 0 bN) {j l:Nat}(hj:j<n)(hl:l<n)(hm:m j l=true)(hf:0<=eM bN l):0<=eM bN j:=
 h.old j l hj hl hm hf (by have:=h.small hl;omega)
theorem mV.way {m:Nat->Nat->Bool}{n first:Nat}{bN:List Int}(hmn:∀i j,m i j=true->i<n/\j<n)(h:mV m n first (n+1) 0 0 bN)(hf:first<n) {j:Nat}(hw:Way m j first):0<=eM bN j:=by
 have h0:eM bN first=0:=(h.zero first hf).2 rfl
 have:∀i j,Way m i j->j=first->0<=eM bN i:=by
  intro i j hw
  induction hw with
  |one g=>intro e;subst e;exact h.closed (hmn _ _ g).1 hf g (by omega)
  |cons g _ ih=>intro e;exact h.closed (hmn _ _ g).1 (hmn _ _ g).2 g (ih e)
 exact this j first hw rfl
theorem mV.first {m:Nat->Nat->Bool}{n first:Nat}{bN:List Int}(hmn:∀i j,m i j=true->i<n/\j<n)(h:mV m n first (n+1) 0 0 bN)(hf:first<n)(hw:Way m first first):∃k,k<n/\m first k=true/\0<=eM bN k:=by
 obtain⟨k,hk,e | g⟩:=hw.step
 ·subst e;exact⟨k,hf,hk,by rw[(h.zero k hf).2 rfl];omega⟩
 ·exact⟨k,(hmn _ _ hk).2,hk,h.way hmn hf g⟩
end Go.AxS
end
section
namespace Go.Ax
open Go
def pZ (t:Nat):List V->Sg->Option (V × Sg)
 | [.aF],Z=>some (.fM [],Z)
 | [.sl b 0 len _],Z=>match Z[b]? with
  |some (.cells u cs ex)=>match Nat.beq u t,Nat.beq len cs.length,allRows kV (cs.map λv=>[v]),Nat.ble len 1000000 with
   |true,true,true,true=>some (.fM [],Z.set b (.cells u (kS strLt (cs.map λv=>[v])).flatten ex))
   |_,_,_,_=>none
  |_=>none
 |_,_=>none
end Go.Ax
end
section
namespace Go.Proofs.YtmbikbgdbbcbmaaGreatDoor
open Go Go.Ax
def Ss:BT Ax.Mode:=(.node 221 (.node 133 (.node 91 (.node 72 (.node 60 (.node 59 (.leaf 15 Ax.Mode.shared) (.leaf 59 Ax.Mode.move)) (.node 65 (.leaf 60 Ax.Mode.shared) (.node 70 (.leaf 65 Ax.Mode.shared) (.leaf 70 Ax.Mode.shared)))) (.node 79 (.node 74 (.leaf 72 Ax.Mode.shared) (.leaf 74 Ax.Mode.shared)) (.node 89 (.leaf 79 Ax.Mode.shared) (.node 90 (.leaf 89 Ax.Mode.shared) (.leaf 90 Ax.Mode.shared))))) (.node 117 (.node 106 (.node 95 (.leaf 91 Ax.Mode.shared) (.leaf 95 Ax.Mode.shared)) (.node 107 (.leaf 106 Ax.Mode.shared) (.node 114 (.leaf 107 Ax.Mode.shared) (.leaf 114 Ax.Mode.shared)))) (.node 122 (.node 121 (.leaf 117 Ax.Mode.shared) (.leaf 121 Ax.Mode.shared)) (.node 123 (.leaf 122 Ax.Mode.shared) (.node 131 (.leaf 123 Ax.Mode.shared) (.leaf 131 Ax.Mode.shared)))))) (.node 167 (.node 161 (.node 153 (.node 141 (.leaf 133 Ax.Mode.shared) (.leaf 141 Ax.Mode.shared)) (.node 154 (.leaf 153 Ax.Mode.shared) (.node 160 (.leaf 154 Ax.Mode.shared) (.leaf 160 Ax.Mode.shared)))) (.node 163 (.node 162 (.leaf 161 Ax.Mode.shared) (.leaf 162 Ax.Mode.shared)) (.node 164 (.leaf 163 Ax.Mode.shared) (.node 165 (.leaf 164 Ax.Mode.shared) (.leaf 165 Ax.Mode.shared))))) (.node 190 (.node 175 (.node 168 (.leaf 167 Ax.Mode.shared) (.leaf 168 Ax.Mode.shared)) (.node 176 (.leaf 175 Ax.Mode.shared) (.node 188 (.leaf 176 Ax.Mode.shared) (.leaf 188 Ax.Mode.shared)))) (.node 194 (.node 191 (.leaf 190 Ax.Mode.shared) (.node 193 (.leaf 191 Ax.Mode.shared) (.leaf 193 Ax.Mode.shared))) (.node 195 (.leaf 194 Ax.Mode.shared) (.node 220 (.leaf 195 Ax.Mode.shared) (.leaf 220 Ax.Mode.shared))))))) (.node 271 (.node 241 (.node 226 (.node 223 (.node 222 (.leaf 221 Ax.Mode.shared) (.leaf 222 Ax.Mode.shared)) (.node 224 (.leaf 223 Ax.Mode.shared) (.node 225 (.leaf 224 Ax.Mode.shared) (.leaf 225 Ax.Mode.shared)))) (.node 228 (.node 227 (.leaf 226 Ax.Mode.shared) (.leaf 227 Ax.Mode.shared)) (.node 230 (.leaf 228 Ax.Mode.shared) (.node 240 (.leaf 230 Ax.Mode.shared) (.leaf 240 Ax.Mode.shared))))) (.node 258 (.node 255 (.node 248 (.leaf 241 Ax.Mode.shared) (.leaf 248 Ax.Mode.shared)) (.node 256 (.leaf 255 Ax.Mode.shared) (.node 257 (.leaf 256 Ax.Mode.shared) (.leaf 257 Ax.Mode.shared)))) (.node 260 (.node 259 (.leaf 258 Ax.Mode.shared) (.leaf 259 Ax.Mode.shared)) (.node 262 (.leaf 260 Ax.Mode.shared) (.node 270 (.leaf 262 Ax.Mode.shared) (.leaf 270 Ax.Mode.shared)))))) (.node 304 (.node 291 (.node 273 (.node 272 (.leaf 271 Ax.Mode.shared) (.leaf 272 Ax.Mode.shared)) (.node 274 (.leaf 273 Ax.Mode.shared) (.node 275 (.leaf 274 Ax.Mode.shared) (.leaf 275 Ax.Mode.shared)))) (.node 297 (.node 296 (.leaf 291 Ax.Mode.shared) (.leaf 296 Ax.Mode.shared)) (.node 299 (.leaf 297 Ax.Mode.shared) (.node 303 (.leaf 299 Ax.Mode.shared) (.leaf 303 Ax.Mode.shared))))) (.node 312 (.node 306 (.node 305 (.leaf 304 Ax.Mode.shared) (.leaf 305 Ax.Mode.shared)) (.node 307 (.leaf 306 Ax.Mode.shared) (.node 311 (.leaf 307 Ax.Mode.shared) (.leaf 311 Ax.Mode.shared)))) (.node 327 (.node 313 (.leaf 312 Ax.Mode.shared) (.node 323 (.leaf 313 Ax.Mode.shared) (.leaf 323 Ax.Mode.shared))) (.node 328 (.leaf 327 Ax.Mode.shared) (.node 339 (.leaf 328 Ax.Mode.shared) (.leaf 339 Ax.Mode.shared))))))))
def Qi:BT (List V->Sg->Option (V × Sg)):=(.node 125 (.node 94 (.leaf 79 (pZ 9)) (.node 116 (.leaf 94 (tI 9 [131,327] [260])) (.leaf 116 (kF 51 [154] [] 118)))) (.node 318 (.leaf 125 L9) (.node 320 (.leaf 318 Cb) (.leaf 320 (L8 5)))))
noncomputable def ground:Ax.Ground Tryz.prog:={ ty:=Ou,fn:=Me,mode:=Ss,hspec:=Qi,eqs:=UI,gl:=Fo,Eb:=λt=>Nat.beq t 267 }
noncomputable def sp0:BT (List V->Option V):=(.node 267 (.node 185 (.leaf 159 nX) (.leaf 185 kJ)) (.node 308 (.leaf 267 jJ) (.leaf 308 vZ)))
def G4:List V:=[.str [122],.int .i64 5,.bS false [[.str [121]]] true,.aF,.int .i64 0]
def Jm:List (List V):=[G4]
def LB:List V:=[.str [99],.bS false [[.str [121]]] true,.bS false [[.str [122]]] true,.bS false [[.str [97]]] true,.bS false Jm true]
def q19:List V:=[.str [120],.int .i64 5,.bS false [[.str [115]]] true,.aF,.int .i64 0]
def q20:List (List V):=[q19]
def q21:List V:=[.str [97],.bS false [[.str [115]]] true,.bS false [[.str [120]]] true,.aF,.bS false q20 true]
def q23:List V:=[.str [121],.int .i64 5,.bS false [[.str [120]]] true,.aF,.int .i64 0]
def q24:List (List V):=[q23]
def q25:List V:=[.str [98],.bS false [[.str [120]]] true,.bS false [[.str [121]]] true,.aF,.bS false q24 true]
def Jl:List (List V):=[LB,q21,q25]
def YX:List V:=[.str [122],.int .i64 5,.bS false [[.str [121]]] false,.aF,.int .i64 0]
def YW:List (List V):=[YX]
def q29:List V:=[.str [99],.bS false [[.str [121]]] false,.bS false [[.str [122]]] false,.bS false [[.str [97]]] false,.bS false YW false]
def q30:List V:=[.str [120],.int .i64 5,.bS false [[.str [115]]] false,.aF,.int .i64 0]
def q31:List (List V):=[q30]
def q32:List V:=[.str [97],.bS false [[.str [115]]] false,.bS false [[.str [120]]] false,.aF,.bS false q31 false]
def q33:List V:=[.str [121],.int .i64 5,.bS false [[.str [120]]] false,.aF,.int .i64 0]
def q34:List (List V):=[q33]
def q35:List V:=[.str [98],.bS false [[.str [120]]] false,.bS false [[.str [121]]] false,.aF,.bS false q34 false]
def q36:List (V × V):=[(.str [99],.agg q29),(.str [97],.agg q32),(.str [98],.agg q35)]
def q37:List (V × V):=[(.str [122],.str [99]),(.str [120],.str [97]),(.str [121],.str [98])]
def q45:List (V × V):=[(.agg [.bool true,.str [99]],.bool true),(.agg [.bool false,.str [121]],.bool true),(.agg [.bool false,.str [122]],.bool true),(.agg [.bool true,.str [97]],.bool true),(.agg [.bool false,.str [115]],.bool true),(.agg [.bool false,.str [120]],.bool true),(.agg [.bool true,.str [98]],.bool true)]
def q46:List V:=[.imp false q45]
def q48:List V:=[.imp false [(.agg [.bool false,.str [121]],.bool true)]]
def Xr:List V:=[.imp false [(.agg [.bool true,.str [99]],.bool true)]]
def q52:List V:=[.imp false [(.agg [.bool false,.str [115]],.bool true)]]
def q54:List V:=[.imp false [(.agg [.bool true,.str [97]],.bool true)]]
def q56:List V:=[.imp false [(.agg [.bool false,.str [120]],.bool true)]]
def q58:List V:=[.imp false [(.agg [.bool true,.str [98]],.bool true)]]
def q59:List (V × V):=[(.agg [.bool true,.str [99]],.cZ false q48),(.agg [.bool false,.str [122]],.cZ false Xr),(.agg [.bool true,.str [97]],.cZ false q52),(.agg [.bool false,.str [120]],.cZ false q54),(.agg [.bool true,.str [98]],.cZ false q56),(.agg [.bool false,.str [121]],.cZ false q58)]
def q61:List V:=[.imp false [(.agg [.bool false,.str [122]],.bool true)]]
def q62:List (V × V):=[(.agg [.bool false,.str [121]],.cZ false Xr),(.agg [.bool true,.str [99]],.cZ false q61),(.agg [.bool false,.str [115]],.cZ false q54),(.agg [.bool true,.str [97]],.cZ false q56),(.agg [.bool false,.str [120]],.cZ false q58),(.agg [.bool true,.str [98]],.cZ false q48)]
def Uw:List V:=[.imp false q36,.imp false q37,.cZ false q46,.imp false q59,.imp false q62]
def q71:List V:=[.str [116],.int .i64 3,.bS true [[.str [97]]] true,.aF,.int .i64 0]
def q74:List V:=[.str [120],.int .i64 4,.bS true [[.str [116]]] true,.aF,.int .i64 0]
def q76:List V:=[.str [121],.int .i64 2,.bS true [[.str [98]]] true,.aF,.int .i64 0]
def q77:List (List V):=[q71,q74,q76]
def Xq:List V:=[.str [114],.bS true [[.str [97]],[.str [98]]] true,.bS true [[.str [120]],[.str [121]]] true,.aF,.bS true q77 true]
def YV:List (List V):=[Xq]
def q80:List V:=[.str [97],.int .i64 1,.bS true [[.str [120]]] true,.aF,.int .i64 0]
def q81:List (List V):=[q80]
def q82:List V:=[.str [115],.bS true [[.str [120]]] true,.bS true [[.str [97]]] true,.aF,.bS true q81 true]
def q83:List (List V):=[q82,Xq]
def q93:List (V × V):=[(.str [99],.bS false [[.str [97]],[.str [98]]] false),(.str [97],.aF),(.str [98],.bS false [[.str [97]]] false)]
def Y3:List (List V):=[[.bool true,.str [50,10]],[.bool false,.str []]]
def Y2:List (List V):=[[.bool false,.str []],[.bool true,.str [122]]]
def Y1:List Nat:=[114,117,108,101,32,114,32,123,32,105,110,32,98,44,32,97,59,32,111,117,116,32,120,59,32,35,32,110,111,10,32,120,32,61,32,115,101,108,101,99,116,32,34,113,92,110,34,32,97,59,32,125]
def Y0:List V:=[.int .i64 1,.int .i64 0,.str [114,117,108,101]]
def q171:List V:=[.str [120],.int .i64 7,.bS false [[.str [97]]] true,.bS false [[.str [113,10]]] true,.int .i64 0]
def q172:List (List V):=[q171]
def q173:List V:=[.str [114],.bS false [[.str [98]],[.str [97]]] false,.bS false [[.str [120]]] true,.aF,.bS false q172 false]
def YZ:List (List V):=[q173]
def Pn:List V:=[.cZ false Uw]
def q188:List (V × V):=[(.str [97],.bool true),(.str [98],.bool true)]
def YY:List (V × V):=[(.str [97],.imp false []),(.str [98],.imp false [(.str [97],.bool true)]),(.str [99],.imp false q188)]
def t266:List (List V × V):=[([.int .i32 99],.bool true),([.int .i32 121],.bool true),([.int .i32 122],.bool true),([.int .i32 97],.bool true),([.int .i32 115],.bool true),([.int .i32 120],.bool true),([.int .i32 98],.bool true),([.int .i32 114],.bool true),([.int .i32 116],.bool true),([.int .i32 46],.bool true)]
noncomputable def Xp:=sp0.put 266 (bJ t266)
def t237:List (List V × V):=[([.str [99]],.bool false),([.str [121]],.bool false),([.str [122]],.bool false),([.str [97]],.bool false),([.str [115]],.bool false),([.str [120]],.bool false),([.str [98]],.bool false),([.str [114]],.bool false),([.str [116]],.bool false),([.str [98,46,99]],.bool false),([.str []],.bool true)]
noncomputable def Us:=Xp.put 237 (bJ t237)
def t199:List (List V × V):=[([.str [99]],.bool true),([.str [121]],.bool true),([.str [122]],.bool true),([.str [97]],.bool true),([.str [115]],.bool true),([.str [120]],.bool true),([.str [98]],.bool true),([.str [114]],.bool true),([.str [116]],.bool true),([.str [105,110]],.bool false),([.str [97,47,99]],.bool true),([.str [97,47,98,46,99]],.bool true),([.str [97,47,47,98]],.bool false),([.str [114,117,108,101]],.bool false)]
noncomputable def RA:=Us.put 199 (bJ t199)
def t212:List (List V × V):=[([.str [99]],.bool false),([.str [121]],.bool false),([.str [122]],.bool false),([.str [97]],.bool false),([.str [115]],.bool false),([.str [120]],.bool false),([.str [98]],.bool false),([.str [114]],.bool false),([.str [116]],.bool false)]
noncomputable def sp4:=RA.put 212 (bJ t212)
def t150:List (List V × V):=[([.agg G4],.bool true),([.agg q19],.bool true),([.agg q23],.bool true),([.agg q71],.bool true),([.agg q74],.bool true),([.agg q76],.bool true),([.agg q80],.bool true)]
noncomputable def Oc:=sp4.put 150 (bJ t150)
def t215:List (List V × V):=[([.bS false [[.str [121]]] true],.bool false),([.bS false [[.str [122]]] true],.bool false),([.bS false [[.str [97]]] true],.bool false),([.bS false [[.str [115]]] true],.bool false),([.bS false [[.str [120]]] true],.bool false),([.aF],.bool false),([.bS true [[.str [97]],[.str [98]]] true],.bool false),([.bS true [[.str [120]],[.str [121]]] true],.bool false),([.bS true [[.str [120]]] true],.bool false),([.bS true [[.str [97]]] true],.bool false)]
noncomputable def sp6:=Oc.put 215 (bJ t215)
def t149:List (List V × V):=[([.agg LB],.int .i64 0),([.agg q21],.int .i64 0),([.agg q25],.int .i64 0),([.agg Xq],.int .i64 0),([.agg q82],.int .i64 0)]
noncomputable def sp7:=sp6.put 149 (bJ t149)
def t119:List (List V × V):=[([.bS true Jl true],.fM [.int .i64 0,.str []]),([.bS true YV true],.fM [.int .i64 0,.str []]),([.bS true q83 true],.fM [.int .i64 0,.str []])]
noncomputable def XK:=sp7.put 119 (bJ t119)
def t158:List (List V × V):=[([.bS true Jl true],.imp false q93),([.bS true YV true],.imp false [(.str [114],.aF)]),([.bS true q83 true],.imp false [(.str [115],.bS false [[.str [114]]] false),(.str [114],.bS false [[.str [115]]] false)])]
noncomputable def sp9:=XK.put 158 (bJ t158)
def t120:List (List V × V):=[([.bS true Jl true],.aF),([.bS true YV true],.aF),([.bS true q83 true],.bS false [[.str [114]],[.str [115]]] false)]
noncomputable def Vj:=sp9.put 120 (bJ t120)
def t68:List (List V × V):=[([.bS true Jl true],.fM [.int .i64 0,.str []]),([.bS true YV true],.fM [.int .i64 0,.str []]),([.bS true q83 true],.fM [.int .i64 3,.str [114]])]
noncomputable def Vi:=Vj.put 68 (bJ t68)
def t69:List (List V × V):=[([.agg LB],.agg q29),([.agg q21],.agg q32),([.agg q25],.agg q35)]
noncomputable def OV:=Vi.put 69 (bJ t69)
def t13:List (List V × V):=[([.bS true Jl true],.cZ false Uw)]
noncomputable def OU:=OV.put 13 (bJ t13)
def t78:List (List V × V):=[([.bS true Jl true],.imp false q93)]
noncomputable def R4:=OU.put 78 (bJ t78)
def t23:List (List V × V):=[([.bS true Jl true],.bS false [[.str [97]],[.str [98]],[.str [99]]] false)]
noncomputable def R3:=R4.put 23 (bJ t23)
def t25:List (List V × V):=[([.bS true Jl true],.bS false [[.bS false [[.str [97]]] false],[.bS false [[.str [98]]] false],[.bS false [[.str [99]]] false]] false)]
noncomputable def R2:=R3.put 25 (bJ t25)
def t88:List (List V × V):=[([.bS true Jl true],.imp false YY)]
noncomputable def R1:=R2.put 88 (bJ t88)
def t93:List (List V × V):=[([.bS true Jl true,.imp false YY,.agg LB,.str [97]],.bool true)]
noncomputable def RZ:=R1.put 93 (bJ t93)
def t32:List (List V × V):=[([.bS true Jl true,.str [99],.str [97]],.bool true)]
noncomputable def RY:=RZ.put 32 (bJ t32)
def t28:List (List V × V):=[([.bS true Jl true],.bS false [[.str [99],.bS false [[.str [121]]] true,.bS false [[.str [122]]] true,.bS false [] false,.bS false Jm true],q21,q25] false)]
noncomputable def RX:=RY.put 28 (bJ t28)
def t139:List (List V × V):=[([.agg Xq,.bS true [[.bool true,.str [113,10,112]],[.bool true,.str []]] true],.bS false Y3 false),([.agg Xq,.bS true Y2 false],.bS false Y2 false),([.agg Xq,.bS true [[.bool true,.str [50,10,49]],[.bool false,.str []]] false],.bS false Y3 false)]
noncomputable def Vh:=RX.put 139 (bJ t139)
def t142:List (List V × V):=[([.bS true YV true,.cZ true [.imp true [(.str [97],.str [50,10,49])]],.bS true [[.str [120]],[.str [97]],[.str [121]]] true],.bS false [[.bool true,.str [50,10]],[.bool true,.str [50,10,49]],[.bool false,.str []]] true)]
noncomputable def Vg:=Vh.put 142 (bJ t142)
def t202:List (List V × V):=[([.str [97,32,34,92,120,52,49,34,32,59]],.fM [.bS false [[.int .i64 1,.int .i64 0,.str [97]],[.int .i64 2,.int .i64 2,.str [65]],[.int .i64 3,.int .i64 9,.str [59]],[.int .i64 4,.int .i64 10,.str []]] false,.agg [.int .i64 0,.int .i64 0]]),([.str Y1],.fM [.bS false [Y0,[.int .i64 1,.int .i64 5,.str [114]],[.int .i64 3,.int .i64 7,.str [123]],[.int .i64 1,.int .i64 9,.str [105,110]],[.int .i64 1,.int .i64 12,.str [98]],[.int .i64 3,.int .i64 13,.str [44]],[.int .i64 1,.int .i64 15,.str [97]],[.int .i64 3,.int .i64 16,.str [59]],[.int .i64 1,.int .i64 18,.str [111,117,116]],[.int .i64 1,.int .i64 22,.str [120]],[.int .i64 3,.int .i64 23,.str [59]],[.int .i64 1,.int .i64 31,.str [120]],[.int .i64 3,.int .i64 33,.str [61]],[.int .i64 1,.int .i64 35,.str [115,101,108,101,99,116]],[.int .i64 2,.int .i64 42,.str [113,10]],[.int .i64 1,.int .i64 48,.str [97]],[.int .i64 3,.int .i64 49,.str [59]],[.int .i64 3,.int .i64 51,.str [125]],[.int .i64 4,.int .i64 52,.str []]] false,.agg [.int .i64 0,.int .i64 0]]),([.str [114,117,108,101,32,105,110,32,123]],.fM [.bS false [Y0,[.int .i64 1,.int .i64 5,.str [105,110]],[.int .i64 3,.int .i64 8,.str [123]],[.int .i64 4,.int .i64 9,.str []]] false,.agg [.int .i64 0,.int .i64 0]])]
noncomputable def RW:=Vg.put 202 (bJ t202)
def t203:List (List V × V):=[([.str Y1],.fM [.bS false YZ false,.agg [.int .i64 0,.int .i64 0]]),([.str [114,117,108,101,32,105,110,32,123]],.fM [.aF,.agg [.int .i64 1,.int .i64 5]])]
noncomputable def Vf:=RW.put 203 (bJ t203)
def t206:List (List V × V):=[([.bS false YZ false],.str [114,117,108,101,32,114,32,123,10,32,32,105,110,32,97,44,32,98,59,10,32,32,111,117,116,32,120,59,10,32,32,120,32,61,32,115,101,108,101,99,116,32,34,113,92,110,34,32,97,59,10,125,10])]
noncomputable def RV:=Vf.put 206 (bJ t206)
def t242:List (List V × V):=[([],.bool true)]
noncomputable def Ve:=RV.put 242 (bJ t242)
def t177:List (List V × V):=[([],.bool true)]
noncomputable def Vd:=Ve.put 177 (bJ t177)
def t115:List (List V × V):=[([],.bool true)]
noncomputable def Vc:=Vd.put 115 (bJ t115)
def t77:List (List V × V):=[([.cZ false Uw,.int .i64 1,.fn 50 Pn [],.bS false [[.bool false,.str [122]]] true],.bS false [[.bool false,.str [122]],[.bool true,.str [99]]] false),([.cZ false Uw,.int .i64 (-1),.fn 52 Pn [],.bS false [[.bool false,.str [121]]] true],.bS false [[.bool false,.str [121]],[.bool false,.str [122]],[.bool true,.str [99]]] false),([.cZ false Uw,.int .i64 (-1),.fn 50 Pn [],.bS true [[.bool false,.str [121]]] false],.bS false [[.bool false,.str [115]],[.bool false,.str [120]],[.bool false,.str [121]],[.bool true,.str [97]],[.bool true,.str [98]]] false),([.cZ false Uw,.int .i64 (-1),.fn 50 Pn [],.bS false [[.bool false,.str [122]]] true],.bS false [[.bool false,.str [115]],[.bool false,.str [120]],[.bool false,.str [121]],[.bool false,.str [122]],[.bool true,.str [97]],[.bool true,.str [98]],[.bool true,.str [99]]] false),([.cZ false Uw,.int .i64 (-1),.fn 52 Pn [],.bS false [[.bool false,.str [120]]] true],.bS false [[.bool false,.str [120]],[.bool false,.str [121]],[.bool false,.str [122]],[.bool true,.str [98]],[.bool true,.str [99]]] false)]
noncomputable def Vb:=Vc.put 77 (bJ t77)
def t101:List (List V × V):=[([.cZ false Uw,.bS true [[.bool false,.str [120]]] true],.imp false [(.agg [.bool false,.str [120]],.int .i64 0),(.agg [.bool true,.str [98]],.int .i64 1),(.agg [.bool false,.str [121]],.int .i64 2),(.agg [.bool true,.str [99]],.int .i64 3),(.agg [.bool false,.str [122]],.int .i64 4)])]
noncomputable def XP:=Vb.put 101 (bJ t101)
def t11:List (List V × V):=[([],.bool true)]
end Go.Proofs.YtmbikbgdbbcbmaaGreatDoor
end
