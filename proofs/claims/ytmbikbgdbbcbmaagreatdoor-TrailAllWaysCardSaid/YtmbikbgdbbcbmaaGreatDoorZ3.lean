/- Part 3 of the proof. -/
import Derived.Test.YtmbikbgdbbcbmaaGreatDoorY
import Derived.Test.YtmbikbgdbbcbmaaGreatDoorZ2
import Derived.Test.YtmbikbgdbbcbmaaGreatDoorProg
import Derived.KernelRfl
set_option maxHeartbeats 8000000
set_option linter.unusedVariables false
open Go.Proofs.Tryz renaming prog→κ,underlying9→aE,underlying3→cD,underlying4→dE,underlying5→fy
open Go.Ax.Mode renaming shared→ς
open List renaming replicate→db
open Bool renaming false_ne_true→oj
open List.Pairwise renaming nil→px
section
namespace Go.Proofs.YtmbikbgdbbcbmaaGreatDoor
open Go Go.Ax
noncomputable def Pd:BT Ty:=BT.Nw (SI κ) 9 0
theorem HL:Pd.Av (xB κ):=by unfold Pd;exact BT.Cp (g:=SI κ) (p:=xB κ) (λ_ _ h=>SH h) 9 0
theorem noGo:(Tryz.prog.funcs.all λfn=>!(fn.name == "runtime.NumGoroutine"))=true:=by kernel_rfl
noncomputable def MJ:BT Ax.Fn:=BT.Nw (T_ κ) 9 0
theorem I_:MJ.Av (Lj κ):=by unfold MJ;exact BT.Cp (g:=T_ κ) (p:=Lj κ) (λ_ _ h=>T9 noGo h) 9 0
def ty5:Ty:={ kd:=.int .u8,size:=1,bytes:=1,zero:=.int .u8 0 }
def dJ:Ty:={ kd:=.str,size:=1,bytes:=16,zero:=.str [] }
def bU:Ty:={ kd:=.jL [(0,4),(1,9)],size:=2,bytes:=24,zero:=.agg [.bool false,.str []] }
def uD:Ty:={ kd:=.map 9 4,size:=1,bytes:=8,zero:=.cA }
theorem ac4:jN κ 7 [.int .i64,.int .i64,.bool,.int .u8]:=jN.of Tryz.underlying7 (by kernel_rfl) (by kernel_rfl) (.cons 0 _ _ _ _ _ (by decide) rfl Tryz.underlying2 rfl (.cons 1 _ _ _ _ _ (by decide) rfl cD rfl (.cons 2 _ _ _ _ _ (by decide) rfl dE rfl (.cons 3 _ _ _ _ _ (by decide) rfl Tryz.underlying6 rfl (.nil 4)))))
theorem ac3:jN κ 8 [.int .i64,.int .i64,.bool,.int .u8]:=jN.of Tryz.underlying8 (by kernel_rfl) (by kernel_rfl) (.cons 0 _ _ _ _ _ (by decide) rfl Tryz.underlying2 rfl (.cons 1 _ _ _ _ _ (by decide) rfl cD rfl (.cons 2 _ _ _ _ _ (by decide) rfl dE rfl (.cons 3 _ _ _ _ _ (by decide) rfl Tryz.underlying6 rfl (.nil 4)))))
theorem Xv:jN κ 50 [.bool,.str]:=jN.of Tryz.underlying50 (by kernel_rfl) (by kernel_rfl) (.cons 0 _ _ _ _ _ (by decide) rfl dE rfl (.cons 1 _ _ _ _ _ (by decide) rfl aE rfl (.nil 2)))
theorem Xu:jN κ 51 [.bool,.str]:=jN.of Tryz.underlying51 (by kernel_rfl) (by kernel_rfl) (.cons 0 _ _ _ _ _ (by decide) rfl dE rfl (.cons 1 _ _ _ _ _ (by decide) rfl aE rfl (.nil 2)))
theorem Un:jN κ 158 [.bool,.str]:=jN.of Tryz.underlying158 (by kernel_rfl) (by kernel_rfl) (.cons 0 _ _ _ _ _ (by decide) rfl dE rfl (.cons 1 _ _ _ _ _ (by decide) rfl aE rfl (.nil 2)))
theorem Um:jN κ 159 [.bool,.str]:=jN.of Tryz.underlying159 (by kernel_rfl) (by kernel_rfl) (.cons 0 _ _ _ _ _ (by decide) rfl dE rfl (.cons 1 _ _ _ _ _ (by decide) rfl aE rfl (.nil 2)))
theorem Ul:jN κ 163 [.str,.str]:=jN.of Tryz.underlying163 (by kernel_rfl) (by kernel_rfl) (.cons 0 _ _ _ _ _ (by decide) rfl aE rfl (.cons 1 _ _ _ _ _ (by decide) rfl aE rfl (.nil 2)))
theorem Uk:jN κ 164 [.str,.str]:=jN.of Tryz.underlying164 (by kernel_rfl) (by kernel_rfl) (.cons 0 _ _ _ _ _ (by decide) rfl aE rfl (.cons 1 _ _ _ _ _ (by decide) rfl aE rfl (.nil 2)))
theorem Uj:jN κ 220 [.int .i64,.int .i64]:=jN.of Tryz.underlying220 (by kernel_rfl) (by kernel_rfl) (.cons 0 _ _ _ _ _ (by decide) rfl Tryz.underlying64 rfl (.cons 1 _ _ _ _ _ (by decide) rfl cD rfl (.nil 2)))
theorem Ui:jN κ 221 [.int .i64,.int .i64]:=jN.of Tryz.underlying221 (by kernel_rfl) (by kernel_rfl) (.cons 0 _ _ _ _ _ (by decide) rfl Tryz.underlying64 rfl (.cons 1 _ _ _ _ _ (by decide) rfl cD rfl (.nil 2)))
theorem Uh:jN κ 226 [.int .i64,.int .i64,.str]:=jN.of Tryz.underlying226 (by kernel_rfl) (by kernel_rfl) (.cons 0 _ _ _ _ _ (by decide) rfl cD rfl (.cons 1 _ _ _ _ _ (by decide) rfl cD rfl (.cons 2 _ _ _ _ _ (by decide) rfl aE rfl (.nil 3))))
theorem Ug:jN κ 227 [.int .i64,.int .i64,.str]:=jN.of Tryz.underlying227 (by kernel_rfl) (by kernel_rfl) (.cons 0 _ _ _ _ _ (by decide) rfl cD rfl (.cons 1 _ _ _ _ _ (by decide) rfl cD rfl (.cons 2 _ _ _ _ _ (by decide) rfl aE rfl (.nil 3))))
theorem Uf:jN κ 313 [.int .u8,.int .u8]:=jN.of Tryz.underlying313 (by kernel_rfl) (by kernel_rfl) (.cons 0 _ _ _ _ _ (by decide) rfl fy rfl (.cons 1 _ _ _ _ _ (by decide) rfl fy rfl (.nil 2)))
theorem Ue:jN κ 314 [.int .u8,.int .u8]:=jN.of Tryz.underlying314 (by kernel_rfl) (by kernel_rfl) (.cons 0 _ _ _ _ _ (by decide) rfl fy rfl (.cons 1 _ _ _ _ _ (by decide) rfl fy rfl (.nil 2)))
theorem Ud:jN κ 339 [.str]:=jN.of Tryz.underlying339 (by kernel_rfl) (by kernel_rfl) (.cons 0 _ _ _ _ _ (by decide) rfl aE rfl (.nil 1))
theorem Uc:jN κ 340 [.str]:=jN.of Tryz.underlying340 (by kernel_rfl) (by kernel_rfl) (.cons 0 _ _ _ _ _ (by decide) rfl aE rfl (.nil 1))
def Vr:BT (List Kd):=(.node 220 (.node 158 (.node 50 (.node 8 (.leaf 7 [.int .i64,.int .i64,.bool,.int .u8]) (.leaf 8 [.int .i64,.int .i64,.bool,.int .u8])) (.node 51 (.leaf 50 [.bool,.str]) (.leaf 51 [.bool,.str]))) (.node 163 (.node 159 (.leaf 158 [.bool,.str]) (.leaf 159 [.bool,.str])) (.node 164 (.leaf 163 [.str,.str]) (.leaf 164 [.str,.str])))) (.node 313 (.node 226 (.node 221 (.leaf 220 [.int .i64,.int .i64]) (.leaf 221 [.int .i64,.int .i64])) (.node 227 (.leaf 226 [.int .i64,.int .i64,.str]) (.leaf 227 [.int .i64,.int .i64,.str]))) (.node 339 (.node 314 (.leaf 313 [.int .u8,.int .u8]) (.leaf 314 [.int .u8,.int .u8])) (.node 340 (.leaf 339 [.str]) (.leaf 340 [.str])))))
theorem Jf:Vr.Av (jN κ):=⟨⟨⟨⟨ac4,ac3⟩,⟨Xv,Xu⟩⟩,⟨⟨Un,Um⟩,⟨Ul,Uk⟩⟩⟩,⟨⟨⟨Uj,Ui⟩,⟨Uh,Ug⟩⟩,⟨⟨Uf,Ue⟩,⟨Ud,Uc⟩⟩⟩⟩
end Go.Proofs.YtmbikbgdbbcbmaaGreatDoor
namespace Go.AxS
open Go Go.Ax
theorem C1:∀s,slt s s=false
 | []=>rfl
 |a::s=>by rw[yY];simp[C1 s]
theorem E6:∀s t u,slt s t=true->slt t u=true->slt s u=true
 |_,[],_,h,_=>by cases ‹List Nat› <;> simp[slt]at h
 |_,_::_,[],_,h=>by simp[slt]at h
 | [],b::t,c::u,_,_=>rfl
 |a::s,b::t,c::u,h1,h2=>by
  rw[yY]at h1 h2 ⊢;simp only[fl,ak,af]at h1 h2 ⊢;rcases h1 with h1 | ⟨rfl,h1⟩
  ·rcases h2 with h2 | ⟨rfl,h2⟩
   ·exact .inl (by omega)
   ·exact .inl h1
  ·rcases h2 with h2 | ⟨rfl,h2⟩
   ·exact .inl h2
   ·exact .inr ⟨rfl,E6 s t u h1 h2⟩
theorem E7:∀s t,slt s t=false->slt t s=false->s=t
 | [],[],_,_=>rfl
 | [],_::_,h,_=>by simp[slt]at h
 |_::_,[],_,h=>by simp[slt]at h
 |a::s,b::t,h1,h2=>by
  rw[yY]at h1 h2;simp only[Bool.or_eq_false_iff,Bool.and_eq_false_iff,decide_eq_false_iff_not]at h1 h2;have e:a=b:=by omega
  subst e;rw[E7 s t (h1.2.resolve_left (λh=>h rfl)) (h2.2.resolve_left (λh=>h rfl))]
theorem kT:∀s t:List Nat,Ax.seq s t=true ↔ s=t
 | [],[]=>by simp[Ax.seq]
 | [],_::_=>by simp[Ax.seq]
 |_::_,[]=>by simp[Ax.seq]
 |a::s,b::t=>by rw[C5];simp[kT s t]
theorem zF(s t:List Nat):Ax.seq s t=decide (s=t):=by
 rw[ec,kT];simp
abbrev aC:=Bool × List Nat
def row(x:aC):List V:=[.bool x.1,.str x.2]
def lt(x y:aC):Bool:=match x.1,y.1 with
 |false,true=>true
 |true,false=>false
 |_,_=>slt x.2 y.2
theorem WT(x y:aC):qE (row x) (row y)=lt x y:=by
 obtain⟨a,s⟩:=x;obtain⟨b,t⟩:=y;cases a <;> cases b <;> rfl
theorem lt_irrefl(x:aC):lt x x=false:=by
 obtain⟨a,s⟩:=x;cases a <;> exact C1 s
theorem lt_trans(x y z:aC)(h1:lt x y=true)(h2:lt y z=true):lt x z=true:=by
 obtain⟨a,s⟩:=x;obtain⟨b,t⟩:=y;obtain⟨c,u⟩:=z;cases a <;> cases b <;> cases c <;> simp only[lt]at h1 h2 ⊢ <;> first | exact E6 _ _ _ h1 h2 | rfl | exact absurd h1 oj | exact absurd h2 oj
theorem IF(x y:aC)(h1:lt x y=false)(h2:lt y x=false):x=y:=by
 obtain⟨a,s⟩:=x;obtain⟨b,t⟩:=y;cases a <;> cases b <;> simp only[lt]at h1 h2 <;> first | rw[E7 _ _ h1 h2] | exact absurd h1.symm oj | exact absurd h2.symm oj
theorem lt_asymm{x y:aC}(h:lt x y=true):lt y x=false:=by
 cases hy:lt y x with
 |false=>rfl
 |true=>have:=lt_trans _ _ _ h hy;rw[lt_irrefl]at this;cases this
def Up(l:List aC):Prop:=l.Pairwise λx y=>lt x y=true
theorem Gt:∀{l m:List aC},Up l->Up m->(∀x,x∈l ↔ x∈m)->l=m
 | [],[],_,_,_=>rfl
 | [],y::m,_,_,h=>by have:=(h y).2 (No ..);cases this
 |x::l,[],_,_,h=>by have:=(h x).1 (No ..);cases this
 |x::l,y::m,h1,h2,h=>by
  rw[Up,jr]at h1 h2
  have e:x=y:=by
   rcases IN.1 ((h x).1 (No ..)) with e | hx
   ·exact e
   rcases IN.1 ((h y).2 (No ..)) with e | hy
   ·exact e.symm
   have:=lt_asymm (h1.1 y hy);rw[h2.1 x hx]at this;cases this
  subst e;rw[Gt h1.2 h2.2 λz=>⟨λhz=>?_,λhz=>?_⟩]
  ·rcases IN.1 ((h z).1 (ae _ hz)) with rfl | hz'
   ·have:=h1.1 z hz;rw[lt_irrefl]at this;cases this
   ·exact hz'
  ·rcases IN.1 ((h z).2 (ae _ hz)) with rfl | hz'
   ·have:=h2.1 z hz;rw[lt_irrefl]at this;cases this
   ·exact hz'
theorem Up.nodup{l:List aC}(h:Up l):l.Nodup:=h.imp λhxy e=>by
 subst e;rw[lt_irrefl]at hxy;cases hxy
def put:List aC->aC->List aC
 | [],x=>[x]
 |y::r,x=>if lt y x=true then y::put r x else if y=x then y::r else x::y::r
theorem zV{x z:aC}:∀{l:List aC},z∈put l x ↔ z∈l\/z=x
 | []=>by simp[put]
 |y::r=>by
  simp only[put];split
  ·rw[IN,zV,IN,or_assoc]
  ·split
   ·rename_i e;subst e;simp only[IN];constructor
    ·intro h;exact .inl h
    ·rintro (h | rfl)
     ·exact h
     ·exact .inl rfl
   ·simp only[IN];constructor
    ·rintro (rfl | h)
     ·exact .inr rfl
     ·exact .inl h
    ·rintro (h | rfl)
     ·exact .inr h
     ·exact .inl rfl
theorem Ko{x:aC}:∀{l:List aC},Up l->Up (put l x)
 | [],_=>by simp[put,Up]
 |y::r,h=>by
  have h0:=h;rw[Up,jr]at h;simp only[put];split
  ·rename_i hyx;refine jr.2 ⟨λz hz=>?_,Ko h.2⟩;rcases zV.1 hz with hz | rfl
   ·exact h.1 z hz
   ·exact hyx
  ·rename_i hyx;split
   ·exact h0
   ·rename_i hne
    have hxy:lt x y=true:=by
     cases hc:lt x y with
     |true=>rfl
     |false=>exact absurd (IF _ _ (by simpa using hyx) hc) hne
    refine jr.2 ⟨λz hz=>?_,h0⟩;rcases IN.1 hz with rfl | hz
    ·exact hxy
    ·exact lt_trans _ _ _ hxy (h.1 z hz)
def setOf(l:List aC):List aC:=l.foldl put []
theorem Ad:∀(l acc:List aC),Up acc->Up (l.foldl put acc)
 | [],_,h=>h
 |_::l,_,h=>Ad l _ (Ko h)
theorem xH{z:aC}:∀(l acc:List aC),z∈l.foldl put acc ↔ z∈acc\/z∈l
 | [],acc=>by simp
 |x::l,acc=>by
  rw[jh,xH l,zV,IN,or_assoc]
theorem lI(l:List aC):Up (setOf l):=Ad l [] px
theorem eP{l:List aC}{z:aC}:z∈setOf l ↔ z∈l:=by
 rw[setOf,xH];simp
theorem Ia{l m:List aC}(h:∀x,x∈l ↔ x∈m):setOf l=setOf m:=Gt (lI l) (lI m) λx=>by rw[eP,eP,h]
theorem I1(x:aC):∀{l:List aC},Up l->x ∉ l->DH qE (row x) (l.map row)=(put l x).map row
 | [],_,_=>rfl
 |y::r,h,hx=>by
  rw[Up,jr]at h;rw[IN,ql]at hx;simp only[bj,DH,put,WT];cases hxy:lt x y with
  |true=>
   rw[az rfl,an (by rw[lt_asymm hxy];simp),an (λe=>hx.1 e.symm)];rfl
  |false=>
   have hyx:lt y x=true:=by
    cases hc:lt y x with
    |true=>rfl
    |false=>exact absurd (IF _ _ hxy hc) hx.1
   rw[an (by simp),az hyx,I1 x h.2 hx.2];rfl
theorem FU:∀(l acc:List aC),Up acc->l.Nodup->(∀x∈l,x ∉ acc)->(l.map row).foldl (λacc x=>DH qE x acc) (acc.map row)=(l.foldl put acc).map row
 | [],_,_,_,_=>rfl
 |x::l,acc,h,hn,hd=>by
  rw[dw]at hn;rw[bj,jh,jh,I1 x h (hd x (No ..))];refine FU l _ (Ko h) hn.2 λz hz hm=>?_;rcases zV.1 hm with hm | rfl
  ·exact hd z (ae _ hz) hm
  ·exact hn.1 hz
theorem AF{l:List aC}(hn:l.Nodup):lA qE (l.map row)=(setOf l).map row:=FU l [] px hn λ_ _ h=>by cases h
theorem oZ{l:List aC}(hn:l.Nodup):(setOf l).length=l.length:=by
 suffices ∀(l acc:List aC),l.Nodup->(∀x∈l,x ∉ acc)->(l.foldl put acc).length=acc.length+l.length by
  have:=this l [] hn (λ_ _ h=>by cases h);simpa [setOf]using this
 intro l
 induction l with
 |nil=>intro acc _ _;simp
 |cons x l ih=>
  intro acc hn hd;rw[dw]at hn
  have hp:∀{m:List aC},x ∉ m->(put m x).length=m.length+1:=by
   intro m
   induction m with
   |nil=>intro _;rfl
   |cons y r ihr=>
    intro hx;rw[IN,ql]at hx;simp only[put];split
    ·simp[ihr hx.2]
    ·rw[an (λe=>hx.1 e.symm)];simp
  rw[jh,ih _ hn.2,hp (hd x (No ..)),IT]
  ·omega
  ·intro z hz hm;rcases zV.1 hm with hm | rfl
   ·exact hd z (ae _ hz) hm
   ·exact hn.1 hz
def kL(l:List aC)(x:aC):List aC:=if x∈l then l else l++[x]
def keys(l:List aC)(xs:List aC):List aC:=xs.foldl kL l
theorem FC{l:List aC}{x z:aC}:z∈kL l x ↔ z∈l\/z=x:=by
 unfold kL;split
 ·rename_i h;constructor
  ·exact .inl
  ·rintro (h' | rfl)
   ·exact h'
   ·exact h
 ·simp
theorem IQ{l:List aC}{x:aC}(h:l.Nodup):(kL l x).Nodup:=by
 unfold kL;split
 ·exact h
 ·rename_i hx;rw[jx];refine⟨h,by simp,?_⟩;intro a ha b hb e;rw[cj]at hb;subst hb;subst e;exact hx ha
theorem mem_keys{z:aC}:∀{xs l:List aC},z∈keys l xs ↔ z∈l\/z∈xs
 | [],l=>by simp[keys]
 |x::xs,l=>by
  show z∈keys (kL l x) xs ↔ _;rw[mem_keys,FC,IN,or_assoc]
theorem mF:∀{xs l:List aC},(keys l xs).length<=l.length+xs.length
 | [],l=>by simp[keys]
 |x::xs,l=>by
  show (keys (kL l x) xs).length<=_;have:=mF (xs:=xs) (l:=kL l x);have h2:(kL l x).length<=l.length+1:=by unfold kL;split <;> simp
  simp only[IT];omega
end Go.AxS
namespace Go.AxS
open Go
abbrev bF:=List Nat
structure Step where
 out:bF
 op:Int
 args:List bF
 lits:List bF
 n:Int
structure aD where
 name:bF
 ins:List bF
 outs:List bF
 after:List bF
 steps:List Step
def sign(c:Nat):Bool:=(decide (97<=c)&&decide (c<=122))||((decide (65<=c)&&decide (c<=90))||((decide (48<=c)&&decide (c<=57))||(decide (c=46)||(decide (c=95)||decide (c=45)))))
def sZ(p:bF):Bool:=!(decide (p=[])||decide (p=[46])||decide (p=[46,46]))&&p.all sign
def pW(s:bF):Bool:=decide (s=[114,117,108,101])||(decide (s=[105,110])||(decide (s=[111,117,116])||decide (s=[97,102,116,101,114])))
def bL(s:bF):Bool:=!pW s&&decide (s.length<=40)&&(Ax.cT 47 s).all sZ
def counts(op:Int):Nat × Nat × Nat:=if op=5 then (0,6,0) else if op=6 then (0,0,1) else if op=7 then (1,1,1) else if op=8 then (1,1,2) else (1,1,0)
def cM(s:Step):Bool:=decide (1<=s.op/\s.op<=9)&&decide ((counts s.op).1<=s.args.length/\s.args.length<=(counts s.op).2.1)&&decide (s.lits.length=(counts s.op).2.2)&&s.lits.all (λl=>decide (l.length<=100))
 && decide (s.op=8->s.lits.head?≠some [])&&decide (0<=s.n/\s.n<=2000)&&decide (s.op=9\/s.n=0)
def lH:List bF->Bool
 | []=>false
 |s::l=>decide (s∈l)||lH l
def lE(r:aD):Bool:=bL r.name&&decide (r.outs≠[])&&r.ins.all bL&&r.outs.all bL&&r.after.all bL&&r.steps.all λs=>bL s.out&&s.args.all bL&&cM s
def long(r:aD):Bool:=decide (8<r.ins.length)||decide (4<r.outs.length)||decide (8<r.after.length)||decide (12<r.steps.length)
def iU:List bF->List Step->Bool
 |_,[]=>true
 |known,s::l=>!decide (s.out∈known)&&s.args.all (λa=>decide (a∈known))&&iU (known++[s.out]) l
def fN(r:aD):Bool:=!lH r.ins && !lH r.outs && !lH r.after && !decide (r.name∈r.after)&&r.outs.all (λo=>!decide (o∈r.ins))&&iU r.ins r.steps&&r.outs.all λo=>decide (o∈r.ins++r.steps.map Step.out)
def bD(r:aD):Int:=if lE r=false then 1 else if long r=true then 4 else if fN r=false then 2 else 0
def bR{α:Type}(p:α->Bool):List α->Option Nat
 | []=>none
 |x::l=>if p x=true then some 0 else (bR p l).map (· + 1)
def fO(rs:List aD)(f:bF):Option Nat:=bR (λr=>decide (f∈r.outs)) rs
def gL(rs:List aD)(n:bF):Option Nat:=bR (λr=>decide (r.name=n)) rs
def wL(rs:List aD)(data:Bool)(r:aD)(k:Nat):Bool:=r.ins.any (λf=>decide (fO rs f=some k))||(!data&&r.after.any λn=>decide (gL rs n=some k))
def iZ(rs:List aD)(data:Bool)(i k:Nat):Bool:=match rs[i]? with
 |some r=>wL rs data r k
 |none=>false
inductive Way (m:Nat->Nat->Bool):Nat->Nat->Prop
 |one {i k}:m i k=true->Way m i k
 |cons {i j k}:m i j=true->Way m j k->Way m i k
theorem Way.trans{m:Nat->Nat->Bool}{i j k:Nat}(h:Way m i j)(g:Way m j k):Way m i k:=by
 induction h with
 |one h=>exact .cons h g
 |cons h _ ih=>exact .cons h (ih g)
def pF(rs:List aD)(i:Nat):Bool:=match rs[i]? with
 |some r=>(rs.take i).any λq=>decide (q.name=r.name)||r.outs.any λo=>decide (o∈q.outs)
 |none=>false
def tW(rs:List aD):Bool:=(List.range rs.length).any (pF rs)
def iC(rs:List aD):Bool:=rs.any λr=>r.after.any λn=>decide (gL rs n=none)
def gZ(rs:List aD):Int:=match rs.find? λr=>decide (bD r≠0) with
 |some r=>bD r
 |none=>if 40<rs.length then 4 else if tW rs=true then 2 else if iC rs=true then 2 else 0
def Ring(rs:List aD):Prop:=∃i,i<rs.length/\Way (iZ rs false) i i
def JI(rs:List aD)(e:Int):Prop:=(gZ rs≠0/\e=gZ rs)\/(gZ rs=0/\((Ring rs/\e=3)\/(¬ Ring rs/\e=0)))
def oD(rs:List aD):Prop:=gZ rs=0/\¬ Ring rs
theorem JI.zero{rs:List aD}{e:Int}(h:JI rs e):e=0 ↔ oD rs:=by
 unfold oD;rcases h with⟨h1,h2⟩ | ⟨h1,⟨h2,h3⟩ | ⟨h2,h3⟩⟩
 ·exact⟨λg=>absurd (h2.symm.trans g) h1,λg=>absurd g.1 h1⟩
 ·exact⟨λg=>by omega,λg=>absurd h2 g.2⟩
 ·exact⟨λ_=>⟨h1,h2⟩,λ_=>h3⟩
end Go.AxS
namespace Go.Ax
theorem eO{α:Type}[DecidableEq α]:∀{a b:List α},a.Nodup->(∀x∈a,x∈b)->a.length<=b.length
 | [],b,_,_=>gv _
 |x::a,b,hn,h=>by
  obtain⟨hx,ha⟩:=dw.1 hn;have hm:x∈b:=h x (No ..)
  have:=eO (b:=b.erase x) ha λy hy=>by
   have hne:y≠x:=λe=>hx (e ▸ hy);exact(List.mem_erase_of_ne hne).2 (h y (ae _ hy))
  rw[List.length_erase_of_mem hm]at this;have:0<b.length:=List.length_pos_of_mem hm;rw[IT];omega
end Go.Ax
namespace Go.AxS
open Go
def wk(m:Nat->Nat->Bool):Nat->Nat->Nat->Bool
 |0,i,j=>m i j
 |k+1,i,j=>wk m k i j||(wk m k i k&&wk m k k j)
theorem OY{m:Nat->Nat->Bool}(k j:Nat):wk m (k+1) k j=wk m k k j:=by
 rw[wk];cases wk m k k j <;> simp
theorem O0{m:Nat->Nat->Bool}(k i:Nat):wk m (k+1) i k=wk m k i k:=by
 rw[wk];cases wk m k i k <;> simp
theorem Gr{m : Nat -> Nat -> Bool}{i j : Nat} : ∀ {k l : Nat}, k <= l -> wk m k i j = true -> wk m l i j = true
  | k, 0, h, e => by obtain rfl : k = 0 := by omega
                     exact e
  | k, l + 1, h, e => by
    rcases cr l k with g | g
    · obtain rfl : k = l + 1 := by omega
      exact e
    · rw [wk, Gr g e]; rfl
theorem yS{m:Nat->Nat->Bool}:∀(k i j l:Nat),j<k->wk m k i j=true->wk m k j l=true->wk m k i l=true
 |0,_,_,_,h,_,_=>absurd h (by omega)
 |k+1,i,j,l,h,a,b=>by
  by_cases hj:j=k
  ·subst hj;rw[O0]at a;rw[OY]at b;rw[wk,a,b];simp
  ·have hj:j<k:=by omega
   rw[wk,fl,ak]at a b ⊢;rcases a with a | ⟨a1,a2⟩ <;> rcases b with b | ⟨b1,b2⟩
   ·exact .inl (yS k i j l hj a b)
   ·exact .inr ⟨yS k i j k hj a b1,b2⟩
   ·exact .inr ⟨a1,yS k k j l hj a2 b⟩
   ·exact .inr ⟨a1,b2⟩
theorem CD{m:Nat->Nat->Bool}:∀{k i j:Nat},wk m k i j=true->Way m i j
 |0,_,_,h=>.one h
 |k+1,i,j,h=>by
  rw[wk,fl,ak]at h;rcases h with h | ⟨h1,h2⟩
  ·exact CD h
  ·exact(CD h1).trans (CD h2)
theorem VI{m:Nat->Nat->Bool}{n:Nat}(hm:∀i j,m i j=true->i<n/\j<n){i j:Nat}(h:Way m i j):wk m n i j=true:=by
 induction h with
 |one h=>exact Gr (gv n) h
 |cons h _ ih=>exact yS n _ _ _ (hm _ _ h).2 (Gr (gv n) h) ih
theorem Way.step{m:Nat->Nat->Bool}{i j:Nat}(h:Way m i j):∃k,m i k=true/\(k=j\/Way m k j):=by
 cases h with
 |one h=>exact⟨_,h,.inl rfl⟩
 |cons h g=>exact⟨_,h,.inr g⟩
def eR(bC:List Int)(i:Nat):Int:=(bC[i]?).getD (-1)
theorem m_{bC:List Int}{i j:Nat}{d:Int}(hi:i<bC.length):eR (bC.set i d) j=if j=i then d else eR bC j:=by
 unfold eR;by_cases h:j=i
 ·subst h;rw[az rfl,br hi];rfl
 ·rw[an h,aa (λe=>h e.symm)]
structure nH (m:Nat->Nat->Bool) (n first d i k:Nat) (bC:List Int):Prop where
 len:bC.length=n
 Nw:∀j,j<n->eR bC j = -1\/(0<=eR bC j/\eR bC j<=(d:Int)/\(i<j->eR bC j<(d:Int)))
 zero:∀j,j<n->(eR bC j=0 ↔ j=first)
 down:∀j (e:Nat),j<n->eR bC j=(e:Int)+1->∃l,l<n/\m j l=true/\eR bC l=(e:Int)
 old:∀j l,j<n->l<n->m j l=true->0<=eR bC l->eR bC l+1<(d:Int)->0<=eR bC j
 now:∀j l,j<i->j<n->l<n->m j l=true->eR bC l+1=(d:Int)->0<=eR bC j
 row:∀l,l<k->i<n->l<n->m i l=true->eR bC l+1=(d:Int)->0<=eR bC i
theorem nH.init{m:Nat->Nat->Bool}{n first:Nat}(hf:first<n):nH m n first 1 0 0 ((db n (-1)).set first 0):=by
 have hl:first<(db n (-1:Int)).length:=by simpa using hf
 have hg:∀j,j<n->eR ((db n (-1)).set first 0) j=if j=first then 0 else -1:=λj hj=>by
  rw[m_ hl];split
  ·rfl
  ·unfold eR;simp[hj]
 refine⟨by simp,λj hj=>?_,λj hj=>?_,λj e hj h=>?_,λj l hj hl hm h1 h2=>?_,λj l hj=>?_,λl hl=>?_⟩
 ·rw[hg j hj];split
  ·exact .inr ⟨by omega,by omega,λ_=>by omega⟩
  ·exact .inl rfl
 ·rw[hg j hj];split
  ·rename_i h;exact⟨λ_=>h,λ_=>rfl⟩
  ·rename_i h;exact⟨λg=>absurd g (by omega),λg=>absurd g h⟩
 ·rw[hg j hj]at h;split at h <;> omega
 ·omega
 ·omega
 ·omega
theorem nH.skip{m:Nat->Nat->Bool}{n first d i k:Nat}{bC:List Int}(h:nH m n first d i k bC)(hne:¬ (m i k=true/\eR bC k=(d:Int)-1)):nH m n first d i (k+1) bC:=by
 refine⟨h.len,h.Nw,h.zero,h.down,h.old,h.now,λl hl hi hln hm e=>?_⟩;rcases cr l k with g | g
 ·exact h.row l g hi hln hm e
 ·obtain rfl:l=k:=by omega
  exact absurd ⟨hm,by omega⟩ hne
theorem nH.put{m:Nat->Nat->Bool}{n first d i k:Nat}{bC:List Int}(h:nH m n first d i k bC)(hi:i<n)(hk:k<n)(hd:1<=d)(hf:eR bC i<0)(hm:m i k=true)(he:eR bC k=(d:Int)-1) :
  nH m n first d i (k+1) (bC.set i (d:Int)):=by
 have hl:i<bC.length:=by rw[h.len];exact hi
 have hi1:eR bC i = -1:=by rcases h.Nw i hi with g | ⟨g,_⟩ <;> omega
 have hki:k≠i:=λe=>by subst e;omega
 refine⟨by rw[dy];exact h.len,λj hj=>?_,λj hj=>?_,λj e hj g=>?_,λj l hj hl2 hm2 h1 h2=>?_,λj l hji hj hl2 hm2 h1=>?_,λl hlk hi2 hl2 hm2 h1=>?_⟩
 ·rw[m_ hl];split
  ·rename_i e;subst e;exact .inr ⟨by omega,by omega,λg=>by omega⟩
  ·exact h.Nw j hj
 ·rw[m_ hl];split
  ·rename_i e;subst e;constructor
   ·intro g;omega
   ·intro g;have:=(h.zero j hj).2 g;omega
  ·exact h.zero j hj
 ·rw[m_ hl]at g;split at g
  ·rename_i e2;subst e2;exact⟨k,hk,hm,by rw[m_ hl,an hki];omega⟩
  ·obtain⟨l,h1,h2,h3⟩:=h.down j e hj g;refine⟨l,h1,h2,?_⟩;rw[m_ hl,an]
   ·exact h3
   ·intro e2;subst e2;omega
 ·rw[m_ hl]at h1 h2 ⊢;split
  ·omega
  ·split at h1
   ·rename_i e2;rw[az e2]at h2;omega
   ·rename_i e2;rw[an e2]at h2;exact h.old j l hj hl2 hm2 h1 h2
 ·rw[m_ hl]at h1 ⊢;split
  ·omega
  ·split at h1
   ·omega
   ·exact h.now j l hji hj hl2 hm2 h1
 ·rw[m_ hl,az rfl];omega
theorem nH.next{m:Nat->Nat->Bool}{n first d i k:Nat}{bC:List Int}(h:nH m n first d i k bC)(hk:k=n\/0<=eR bC i)(hi:i<n):nH m n first d (i+1) 0 bC:=by
 refine⟨h.len,λj hj=>?_,h.zero,h.down,h.old,λj l hj hjn hl hm e=>?_,λl hl=>by omega⟩
 ·rcases h.Nw j hj with g | ⟨g1,g2,g3⟩
  ·exact .inl g
  ·exact .inr ⟨g1,g2,λg=>g3 (by omega)⟩
 ·rcases cr j i with g | g
  ·exact h.now j l g hjn hl hm e
  ·obtain rfl:j=i:=by omega
   rcases hk with rfl | hk
   ·exact h.row l hl hjn hl hm e
   ·exact hk
theorem nH.round{m:Nat->Nat->Bool}{n first d:Nat}{bC:List Int}(h:nH m n first d n 0 bC):nH m n first (d+1) 0 0 bC:=by
 refine⟨h.len,λj hj=>?_,h.zero,h.down,λj l hj hl hm h1 h2=>?_,λj l hj=>by omega,λl hl=>by omega⟩
 ·rcases h.Nw j hj with g | ⟨g1,g2,_⟩
  ·exact .inl g
  ·exact .inr ⟨g1,by omega,λ_=>by omega⟩
 ·rcases cr ((eR bC l+1).toNat) d with g | g
  ·exact h.old j l hj hl hm h1 (by omega)
  ·exact h.now j l hj hj hl hm (by omega)
theorem nH.small{m:Nat->Nat->Bool}{n first d:Nat}{bC:List Int}(h:nH m n first d 0 0 bC){j:Nat}(hj:j<n):eR bC j<(n:Int):=by
 have chain:∀(e:Nat)(j:Nat),j<n->eR bC j=(e:Int)->∃l:List Nat,l.length=e+1/\l.Nodup/\∀x∈l,x<n/\0<=eR bC x/\eR bC x<=(e:Int):=by
  intro e
  induction e with
  |zero=>intro j hj he;exact⟨[j],rfl,by simp,λx hx=>by simp at hx;subst hx;exact⟨hj,by omega,by omega⟩⟩
  |succ e ih=>
   intro j hj he;obtain⟨k,hk,_,hk2⟩:=h.down j e hj (by omega);obtain⟨l,h1,h2,h3⟩:=ih k hk hk2;refine⟨j::l,by simp[h1],dw.2 ⟨λhm=>?_,h2⟩,λx hx=>?_⟩
   ·have:=(h3 j hm).2.2;omega
   ·rcases IN.1 hx with rfl | hx
    ·exact⟨hj,by omega,by omega⟩
    ·obtain⟨a,b,c⟩:=h3 x hx;exact⟨a,b,by omega⟩
 rcases h.Nw j hj with g | ⟨g,_⟩
 ·omega
 ·obtain⟨l,h1,h2,h3⟩:=chain (eR bC j).toNat j hj (by omega);have:l.length<=(List.range n).length:=Ax.eO h2 λx hx=>k8.2 (h3 x hx).1;rw[qd]at this;omega
theorem nH.closed{m:Nat->Nat->Bool}{n first:Nat}{bC:List Int}(h:nH m n first (n+1) 0 0 bC){j l:Nat}(hj:j<n)(hl:l<n)(hm:m j l=true)(hf:0<=eR bC l):0<=eR bC j:=
 h.old j l hj hl hm hf (by have:=h.small hl;omega)
theorem nH.way{m:Nat->Nat->Bool}{n first:Nat}{bC:List Int}(hmn:∀i j,m i j=true->i<n/\j<n)(h:nH m n first (n+1) 0 0 bC)(hf:first<n){j:Nat}(hw:Way m j first):0<=eR bC j:=by
 have h0:eR bC first=0:=(h.zero first hf).2 rfl
 have:∀i j,Way m i j->j=first->0<=eR bC i:=by
  intro i j hw
  induction hw with
  |one g=>intro e;subst e;exact h.closed (hmn _ _ g).1 hf g (by omega)
  |cons g _ ih=>intro e;exact h.closed (hmn _ _ g).1 (hmn _ _ g).2 g (ih e)
 exact this j first hw rfl
theorem nH.first{m:Nat->Nat->Bool}{n first:Nat}{bC:List Int}(hmn:∀i j,m i j=true->i<n/\j<n)(h:nH m n first (n+1) 0 0 bC)(hf:first<n)(hw:Way m first first):∃k,k<n/\m first k=true/\0<=eR bC k:=by
 obtain⟨k,hk,e | g⟩:=hw.step
 ·subst e;exact⟨k,hf,hk,by rw[(h.zero k hf).2 rfl];omega⟩
 ·exact⟨k,(hmn _ _ hk).2,hk,h.way hmn hf g⟩
end Go.AxS
namespace Go.Ax
open Go
def qF(t:Nat):List V->Sg->Option (V × Sg)
 | [.aG],Z=>some (.fR [],Z)
 | [.sl b 0 len _],Z=>match Z[b]? with
  |some (.cells u cs ex)=>match Nat.beq u t,Nat.beq len cs.length,allRows lC (cs.map λv=>[v]),Nat.ble len 1000000 with
   |true,true,true,true=>some (.fR [],Z.set b (.cells u (lA strLt (cs.map λv=>[v])).flatten ex))
   |_,_,_,_=>none
  |_=>none
 |_,_=>none
end Go.Ax
namespace Go.Proofs.YtmbikbgdbbcbmaaGreatDoor
open Go Go.Ax
def Tn:BT Ax.Mode:=(.node 221 (.node 133 (.node 91 (.node 72 (.node 60 (.node 59 (.leaf 15 ς) (.leaf 59 Ax.Mode.move)) (.node 65 (.leaf 60 ς) (.node 70 (.leaf 65 ς) (.leaf 70 ς)))) (.node 79 (.node 74 (.leaf 72 ς) (.leaf 74 ς)) (.node 89 (.leaf 79 ς) (.node 90 (.leaf 89 ς) (.leaf 90 ς))))) (.node 117 (.node 106 (.node 95 (.leaf 91 ς) (.leaf 95 ς)) (.node 107 (.leaf 106 ς) (.node 114 (.leaf 107 ς) (.leaf 114 ς)))) (.node 122 (.node 121 (.leaf 117 ς) (.leaf 121 ς)) (.node 123 (.leaf 122 ς) (.node 131 (.leaf 123 ς) (.leaf 131 ς)))))) (.node 167 (.node 161 (.node 153 (.node 141 (.leaf 133 ς) (.leaf 141 ς)) (.node 154 (.leaf 153 ς) (.node 160 (.leaf 154 ς) (.leaf 160 ς)))) (.node 163 (.node 162 (.leaf 161 ς) (.leaf 162 ς)) (.node 164 (.leaf 163 ς) (.node 165 (.leaf 164 ς) (.leaf 165 ς))))) (.node 190 (.node 175 (.node 168 (.leaf 167 ς) (.leaf 168 ς)) (.node 176 (.leaf 175 ς) (.node 188 (.leaf 176 ς) (.leaf 188 ς)))) (.node 194 (.node 191 (.leaf 190 ς) (.node 193 (.leaf 191 ς) (.leaf 193 ς))) (.node 195 (.leaf 194 ς) (.node 220 (.leaf 195 ς) (.leaf 220 ς))))))) (.node 271 (.node 241 (.node 226 (.node 223 (.node 222 (.leaf 221 ς) (.leaf 222 ς)) (.node 224 (.leaf 223 ς) (.node 225 (.leaf 224 ς) (.leaf 225 ς)))) (.node 228 (.node 227 (.leaf 226 ς) (.leaf 227 ς)) (.node 230 (.leaf 228 ς) (.node 240 (.leaf 230 ς) (.leaf 240 ς))))) (.node 258 (.node 255 (.node 248 (.leaf 241 ς) (.leaf 248 ς)) (.node 256 (.leaf 255 ς) (.node 257 (.leaf 256 ς) (.leaf 257 ς)))) (.node 260 (.node 259 (.leaf 258 ς) (.leaf 259 ς)) (.node 262 (.leaf 260 ς) (.node 270 (.leaf 262 ς) (.leaf 270 ς)))))) (.node 304 (.node 291 (.node 273 (.node 272 (.leaf 271 ς) (.leaf 272 ς)) (.node 274 (.leaf 273 ς) (.node 275 (.leaf 274 ς) (.leaf 275 ς)))) (.node 297 (.node 296 (.leaf 291 ς) (.leaf 296 ς)) (.node 299 (.leaf 297 ς) (.node 303 (.leaf 299 ς) (.leaf 303 ς))))) (.node 312 (.node 306 (.node 305 (.leaf 304 ς) (.leaf 305 ς)) (.node 307 (.leaf 306 ς) (.node 311 (.leaf 307 ς) (.leaf 311 ς)))) (.node 327 (.node 313 (.leaf 312 ς) (.node 323 (.leaf 313 ς) (.leaf 323 ς))) (.node 328 (.leaf 327 ς) (.node 339 (.leaf 328 ς) (.leaf 339 ς))))))))
def Rc:BT (List V->Sg->Option (V × Sg)):=(.node 125 (.node 94 (.leaf 79 (qF 9)) (.node 116 (.leaf 94 (tO 9 [131,327] [260])) (.leaf 116 (kM 51 [154] [] 118)))) (.node 318 (.leaf 125 MD) (.node 320 (.leaf 318 Cs) (.leaf 320 (MC 5)))))
noncomputable def ground:Ax.Ground κ:={ ty:=Pd,fn:=MJ,mode:=Tn,hspec:=Rc,eqs:=Vr,gl:=FN,Ey:=λt=>Nat.beq t 267 }
noncomputable def sp0:BT (List V->Option V):=(.node 267 (.node 185 (.leaf 159 oF) (.leaf 185 kR)) (.node 308 (.leaf 267 jP) (.leaf 308 wE)))
def HB:List V:=[.str [122],.int .i64 5,.bV false [[.str [121]]] true,.aG,.int .i64 0]
def JM:List (List V):=[HB]
def L9:List V:=[.str [99],.bV false [[.str [121]]] true,.bV false [[.str [122]]] true,.bV false [[.str [97]]] true,.bV false JM true]
def q19:List V:=[.str [120],.int .i64 5,.bV false [[.str [115]]] true,.aG,.int .i64 0]
def q20:List (List V):=[q19]
def q21:List V:=[.str [97],.bV false [[.str [115]]] true,.bV false [[.str [120]]] true,.aG,.bV false q20 true]
def q23:List V:=[.str [121],.int .i64 5,.bV false [[.str [120]]] true,.aG,.int .i64 0]
def q24:List (List V):=[q23]
def q25:List V:=[.str [98],.bV false [[.str [120]]] true,.bV false [[.str [121]]] true,.aG,.bV false q24 true]
def JL:List (List V):=[L9,q21,q25]
def ZQ:List V:=[.str [122],.int .i64 5,.bV false [[.str [121]]] false,.aG,.int .i64 0]
def ZP:List (List V):=[ZQ]
def q29:List V:=[.str [99],.bV false [[.str [121]]] false,.bV false [[.str [122]]] false,.bV false [[.str [97]]] false,.bV false ZP false]
def q30:List V:=[.str [120],.int .i64 5,.bV false [[.str [115]]] false,.aG,.int .i64 0]
def q31:List (List V):=[q30]
def q32:List V:=[.str [97],.bV false [[.str [115]]] false,.bV false [[.str [120]]] false,.aG,.bV false q31 false]
def q33:List V:=[.str [121],.int .i64 5,.bV false [[.str [120]]] false,.aG,.int .i64 0]
def q34:List (List V):=[q33]
def q35:List V:=[.str [98],.bV false [[.str [120]]] false,.bV false [[.str [121]]] false,.aG,.bV false q34 false]
def q36:List (V × V):=[(.str [99],.agg q29),(.str [97],.agg q32),(.str [98],.agg q35)]
def q37:List (V × V):=[(.str [122],.str [99]),(.str [120],.str [97]),(.str [121],.str [98])]
def q45:List (V × V):=[(.agg [.bool true,.str [99]],.bool true),(.agg [.bool false,.str [121]],.bool true),(.agg [.bool false,.str [122]],.bool true),(.agg [.bool true,.str [97]],.bool true),(.agg [.bool false,.str [115]],.bool true),(.agg [.bool false,.str [120]],.bool true),(.agg [.bool true,.str [98]],.bool true)]
def q46:List V:=[.imp false q45]
def q48:List V:=[.imp false [(.agg [.bool false,.str [121]],.bool true)]]
def Vj:List V:=[.imp false [(.agg [.bool true,.str [99]],.bool true)]]
def ZO:List V:=[.imp false [(.agg [.bool false,.str [115]],.bool true)]]
def q54:List V:=[.imp false [(.agg [.bool true,.str [97]],.bool true)]]
def q56:List V:=[.imp false [(.agg [.bool false,.str [120]],.bool true)]]
def q58:List V:=[.imp false [(.agg [.bool true,.str [98]],.bool true)]]
def q59:List (V × V):=[(.agg [.bool true,.str [99]],.cR false q48),(.agg [.bool false,.str [122]],.cR false Vj),(.agg [.bool true,.str [97]],.cR false ZO),(.agg [.bool false,.str [120]],.cR false q54),(.agg [.bool true,.str [98]],.cR false q56),(.agg [.bool false,.str [121]],.cR false q58)]
def q61:List V:=[.imp false [(.agg [.bool false,.str [122]],.bool true)]]
def q62:List (V × V):=[(.agg [.bool false,.str [121]],.cR false Vj),(.agg [.bool true,.str [99]],.cR false q61),(.agg [.bool false,.str [115]],.cR false q54),(.agg [.bool true,.str [97]],.cR false q56),(.agg [.bool false,.str [120]],.cR false q58),(.agg [.bool true,.str [98]],.cR false q48)]
def Vi:List V:=[.imp false q36,.imp false q37,.cR false q46,.imp false q59,.imp false q62]
def q71:List V:=[.str [116],.int .i64 3,.bV true [[.str [97]]] true,.aG,.int .i64 0]
def q74:List V:=[.str [120],.int .i64 4,.bV true [[.str [116]]] true,.aG,.int .i64 0]
def q76:List V:=[.str [121],.int .i64 2,.bV true [[.str [98]]] true,.aG,.int .i64 0]
def q77:List (List V):=[q71,q74,q76]
def Yg:List V:=[.str [114],.bV true [[.str [97]],[.str [98]]] true,.bV true [[.str [120]],[.str [121]]] true,.aG,.bV true q77 true]
def ZN:List (List V):=[Yg]
def q80:List V:=[.str [97],.int .i64 1,.bV true [[.str [120]]] true,.aG,.int .i64 0]
def q81:List (List V):=[q80]
def q82:List V:=[.str [115],.bV true [[.str [120]]] true,.bV true [[.str [97]]] true,.aG,.bV true q81 true]
def q83:List (List V):=[q82,Yg]
def q93:List (V × V):=[(.str [99],.bV false [[.str [97]],[.str [98]]] false),(.str [97],.aG),(.str [98],.bV false [[.str [97]]] false)]
def ZW:List (List V):=[[.bool true,.str [50,10]],[.bool false,.str []]]
def ZV:List (List V):=[[.bool false,.str []],[.bool true,.str [122]]]
def ZU:List Nat:=[114,117,108,101,32,114,32,123,32,105,110,32,98,44,32,97,59,32,111,117,116,32,120,59,32,35,32,110,111,10,32,120,32,61,32,115,101,108,101,99,116,32,34,113,92,110,34,32,97,59,32,125]
def ZT:List V:=[.int .i64 1,.int .i64 0,.str [114,117,108,101]]
def q171:List V:=[.str [120],.int .i64 7,.bV false [[.str [97]]] true,.bV false [[.str [113,10]]] true,.int .i64 0]
def q172:List (List V):=[q171]
def q173:List V:=[.str [114],.bV false [[.str [98]],[.str [97]]] false,.bV false [[.str [120]]] true,.aG,.bV false q172 false]
def ZS:List (List V):=[q173]
def Qb:List V:=[.cR false Vi]
def q188:List (V × V):=[(.str [97],.bool true),(.str [98],.bool true)]
def ZR:List (V × V):=[(.str [97],.imp false []),(.str [98],.imp false [(.str [97],.bool true)]),(.str [99],.imp false q188)]
def t266:List (List V × V):=[([.int .i32 99],.bool true),([.int .i32 121],.bool true),([.int .i32 122],.bool true),([.int .i32 97],.bool true),([.int .i32 115],.bool true),([.int .i32 120],.bool true),([.int .i32 98],.bool true),([.int .i32 114],.bool true),([.int .i32 116],.bool true),([.int .i32 46],.bool true)]
noncomputable def Vg:=sp0.put 266 (bM t266)
def t237:List (List V × V):=[([.str [99]],.bool false),([.str [121]],.bool false),([.str [122]],.bool false),([.str [97]],.bool false),([.str [115]],.bool false),([.str [120]],.bool false),([.str [98]],.bool false),([.str [114]],.bool false),([.str [116]],.bool false),([.str [98,46,99]],.bool false),([.str []],.bool true)]
noncomputable def St:=Vg.put 237 (bM t237)
def t199:List (List V × V):=[([.str [99]],.bool true),([.str [121]],.bool true),([.str [122]],.bool true),([.str [97]],.bool true),([.str [115]],.bool true),([.str [120]],.bool true),([.str [98]],.bool true),([.str [114]],.bool true),([.str [116]],.bool true),([.str [105,110]],.bool false),([.str [97,47,99]],.bool true),([.str [97,47,98,46,99]],.bool true),([.str [97,47,47,98]],.bool false),([.str [114,117,108,101]],.bool false)]
noncomputable def Ss:=St.put 199 (bM t199)
def t212:List (List V × V):=[([.str [99]],.bool false),([.str [121]],.bool false),([.str [122]],.bool false),([.str [97]],.bool false),([.str [115]],.bool false),([.str [120]],.bool false),([.str [98]],.bool false),([.str [114]],.bool false),([.str [116]],.bool false)]
noncomputable def sp4:=Ss.put 212 (bM t212)
def t150:List (List V × V):=[([.agg HB],.bool true),([.agg q19],.bool true),([.agg q23],.bool true),([.agg q71],.bool true),([.agg q74],.bool true),([.agg q76],.bool true),([.agg q80],.bool true)]
noncomputable def HV:=sp4.put 150 (bM t150)
def t215:List (List V × V):=[([.bV false [[.str [121]]] true],.bool false),([.bV false [[.str [122]]] true],.bool false),([.bV false [[.str [97]]] true],.bool false),([.bV false [[.str [115]]] true],.bool false),([.bV false [[.str [120]]] true],.bool false),([.aG],.bool false),([.bV true [[.str [97]],[.str [98]]] true],.bool false),([.bV true [[.str [120]],[.str [121]]] true],.bool false),([.bV true [[.str [120]]] true],.bool false),([.bV true [[.str [97]]] true],.bool false)]
noncomputable def sp6:=HV.put 215 (bM t215)
def t149:List (List V × V):=[([.agg L9],.int .i64 0),([.agg q21],.int .i64 0),([.agg q25],.int .i64 0),([.agg Yg],.int .i64 0),([.agg q82],.int .i64 0)]
noncomputable def YB:=sp6.put 149 (bM t149)
def t119:List (List V × V):=[([.bV true JL true],.fR [.int .i64 0,.str []]),([.bV true ZN true],.fR [.int .i64 0,.str []]),([.bV true q83 true],.fR [.int .i64 0,.str []])]
noncomputable def sp8:=YB.put 119 (bM t119)
def t158:List (List V × V):=[([.bV true JL true],.imp false q93),([.bV true ZN true],.imp false [(.str [114],.aG)]),([.bV true q83 true],.imp false [(.str [115],.bV false [[.str [114]]] false),(.str [114],.bV false [[.str [115]]] false)])]
noncomputable def sp9:=sp8.put 158 (bM t158)
def t120:List (List V × V):=[([.bV true JL true],.aG),([.bV true ZN true],.aG),([.bV true q83 true],.bV false [[.str [114]],[.str [115]]] false)]
noncomputable def V6:=sp9.put 120 (bM t120)
def t68:List (List V × V):=[([.bV true JL true],.fR [.int .i64 0,.str []]),([.bV true ZN true],.fR [.int .i64 0,.str []]),([.bV true q83 true],.fR [.int .i64 3,.str [114]])]
noncomputable def V5:=V6.put 68 (bM t68)
def t69:List (List V × V):=[([.agg L9],.agg q29),([.agg q21],.agg q32),([.agg q25],.agg q35)]
noncomputable def PF:=V5.put 69 (bM t69)
def t13:List (List V × V):=[([.bV true JL true],.cR false Vi)]
noncomputable def PE:=PF.put 13 (bM t13)
def t78:List (List V × V):=[([.bV true JL true],.imp false q93)]
noncomputable def S0:=PE.put 78 (bM t78)
def t23:List (List V × V):=[([.bV true JL true],.bV false [[.str [97]],[.str [98]],[.str [99]]] false)]
noncomputable def SZ:=S0.put 23 (bM t23)
def t25:List (List V × V):=[([.bV true JL true],.bV false [[.bV false [[.str [97]]] false],[.bV false [[.str [98]]] false],[.bV false [[.str [99]]] false]] false)]
noncomputable def SY:=SZ.put 25 (bM t25)
def t88:List (List V × V):=[([.bV true JL true],.imp false ZR)]
noncomputable def PD:=SY.put 88 (bM t88)
def t93:List (List V × V):=[([.bV true JL true,.imp false ZR,.agg L9,.str [97]],.bool true)]
noncomputable def SX:=PD.put 93 (bM t93)
def t32:List (List V × V):=[([.bV true JL true,.str [99],.str [97]],.bool true)]
noncomputable def PC:=SX.put 32 (bM t32)
def t28:List (List V × V):=[([.bV true JL true],.bV false [[.str [99],.bV false [[.str [121]]] true,.bV false [[.str [122]]] true,.bV false [] false,.bV false JM true],q21,q25] false)]
noncomputable def SU:=PC.put 28 (bM t28)
def t139:List (List V × V):=[([.agg Yg,.bV true [[.bool true,.str [113,10,112]],[.bool true,.str []]] true],.bV false ZW false),([.agg Yg,.bV true ZV false],.bV false ZV false),([.agg Yg,.bV true [[.bool true,.str [50,10,49]],[.bool false,.str []]] false],.bV false ZW false)]
noncomputable def V4:=SU.put 139 (bM t139)
def t142:List (List V × V):=[([.bV true ZN true,.cR true [.imp true [(.str [97],.str [50,10,49])]],.bV true [[.str [120]],[.str [97]],[.str [121]]] true],.bV false [[.bool true,.str [50,10]],[.bool true,.str [50,10,49]],[.bool false,.str []]] true)]
noncomputable def V3:=V4.put 142 (bM t142)
def t202:List (List V × V):=[([.str [97,32,34,92,120,52,49,34,32,59]],.fR [.bV false [[.int .i64 1,.int .i64 0,.str [97]],[.int .i64 2,.int .i64 2,.str [65]],[.int .i64 3,.int .i64 9,.str [59]],[.int .i64 4,.int .i64 10,.str []]] false,.agg [.int .i64 0,.int .i64 0]]),([.str ZU],.fR [.bV false [ZT,[.int .i64 1,.int .i64 5,.str [114]],[.int .i64 3,.int .i64 7,.str [123]],[.int .i64 1,.int .i64 9,.str [105,110]],[.int .i64 1,.int .i64 12,.str [98]],[.int .i64 3,.int .i64 13,.str [44]],[.int .i64 1,.int .i64 15,.str [97]],[.int .i64 3,.int .i64 16,.str [59]],[.int .i64 1,.int .i64 18,.str [111,117,116]],[.int .i64 1,.int .i64 22,.str [120]],[.int .i64 3,.int .i64 23,.str [59]],[.int .i64 1,.int .i64 31,.str [120]],[.int .i64 3,.int .i64 33,.str [61]],[.int .i64 1,.int .i64 35,.str [115,101,108,101,99,116]],[.int .i64 2,.int .i64 42,.str [113,10]],[.int .i64 1,.int .i64 48,.str [97]],[.int .i64 3,.int .i64 49,.str [59]],[.int .i64 3,.int .i64 51,.str [125]],[.int .i64 4,.int .i64 52,.str []]] false,.agg [.int .i64 0,.int .i64 0]]),([.str [114,117,108,101,32,105,110,32,123]],.fR [.bV false [ZT,[.int .i64 1,.int .i64 5,.str [105,110]],[.int .i64 3,.int .i64 8,.str [123]],[.int .i64 4,.int .i64 9,.str []]] false,.agg [.int .i64 0,.int .i64 0]])]
noncomputable def SQ:=V3.put 202 (bM t202)
def t203:List (List V × V):=[([.str ZU],.fR [.bV false ZS false,.agg [.int .i64 0,.int .i64 0]]),([.str [114,117,108,101,32,105,110,32,123]],.fR [.aG,.agg [.int .i64 1,.int .i64 5]])]
noncomputable def V2:=SQ.put 203 (bM t203)
def t206:List (List V × V):=[([.bV false ZS false],.str [114,117,108,101,32,114,32,123,10,32,32,105,110,32,97,44,32,98,59,10,32,32,111,117,116,32,120,59,10,32,32,120,32,61,32,115,101,108,101,99,116,32,34,113,92,110,34,32,97,59,10,125,10])]
noncomputable def SP:=V2.put 206 (bM t206)
def t242:List (List V × V):=[([],.bool true)]
noncomputable def VZ:=SP.put 242 (bM t242)
def t177:List (List V × V):=[([],.bool true)]
noncomputable def VY:=VZ.put 177 (bM t177)
def t115:List (List V × V):=[([],.bool true)]
noncomputable def VX:=VY.put 115 (bM t115)
def t77:List (List V × V):=[([.cR false Vi,.int .i64 1,.fn 50 Qb [],.bV false [[.bool false,.str [122]]] true],.bV false [[.bool false,.str [122]],[.bool true,.str [99]]] false),([.cR false Vi,.int .i64 (-1),.fn 52 Qb [],.bV false [[.bool false,.str [121]]] true],.bV false [[.bool false,.str [121]],[.bool false,.str [122]],[.bool true,.str [99]]] false),([.cR false Vi,.int .i64 (-1),.fn 50 Qb [],.bV true [[.bool false,.str [121]]] false],.bV false [[.bool false,.str [115]],[.bool false,.str [120]],[.bool false,.str [121]],[.bool true,.str [97]],[.bool true,.str [98]]] false),([.cR false Vi,.int .i64 (-1),.fn 50 Qb [],.bV false [[.bool false,.str [122]]] true],.bV false [[.bool false,.str [115]],[.bool false,.str [120]],[.bool false,.str [121]],[.bool false,.str [122]],[.bool true,.str [97]],[.bool true,.str [98]],[.bool true,.str [99]]] false),([.cR false Vi,.int .i64 (-1),.fn 52 Qb [],.bV false [[.bool false,.str [120]]] true],.bV false [[.bool false,.str [120]],[.bool false,.str [121]],[.bool false,.str [122]],[.bool true,.str [98]],[.bool true,.str [99]]] false)]
noncomputable def VW:=VX.put 77 (bM t77)
def t101:List (List V × V):=[([.cR false Vi,.bV true [[.bool false,.str [120]]] true],.imp false [(.agg [.bool false,.str [120]],.int .i64 0),(.agg [.bool true,.str [98]],.int .i64 1),(.agg [.bool false,.str [121]],.int .i64 2),(.agg [.bool true,.str [99]],.int .i64 3),(.agg [.bool false,.str [122]],.int .i64 4)])]
noncomputable def YG:=VW.put 101 (bM t101)
def t11:List (List V × V):=[([],.bool true)]
end Go.Proofs.YtmbikbgdbbcbmaaGreatDoor
end
