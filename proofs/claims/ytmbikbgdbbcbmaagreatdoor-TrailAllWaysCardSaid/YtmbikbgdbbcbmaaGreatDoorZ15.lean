/- Part 15 of the proof. -/
import Derived.Test.YtmbikbgdbbcbmaaGreatDoorY
import Derived.Test.YtmbikbgdbbcbmaaGreatDoorZ14
import Derived.Test.YtmbikbgdbbcbmaaGreatDoorZ0
import Derived.Test.YtmbikbgdbbcbmaaGreatDoorZ3
set_option maxHeartbeats 8000000
set_option linter.unusedVariables false
set_option maxRecDepth 10000
open Nat renaming reduceEqDiff→δ,reduceLT→ε,reduceAdd→μ,reduceLeDiff→ω,reduceMul→ap,blt→i5
open Go.Ax.O renaming cells→ζ
open And renaming intro→θ
open Go.Ax renaming loadAt→ι,storeAt→Ξ,setCells→ac,bytes→fY,again→ly,append→rt
open Int renaming reduceNeg→φ
open Go renaming Operand→χ,Oper→cd
open Go.AxS renaming Step→am
open Go.Proofs.Tryz renaming f172→ao,f46→cp,f111→cx,f119→dl,f158→dp,f197→ky,f110→m7,f137→m8,f74→qq
open Go.AxS.Step renaming out→dt
open Go.Ax.V renaming bool→du
open Bool renaming or_false→qz
open List (take_nil)
open Int (reduceEq)
section
namespace Go.Ax
open Go
section
def FT.set(F:FT)(t:Nat)(v:V):FT:=FT.put v (t+1) F t
theorem FT.bX{F:FT}{u t:Nat}{v:V}:(FT.set F u v).get t=if t=u then v else F.get t:=FT.aJ v (u+1) F u t (by omega)
theorem Fr.u_{n u:Nat}{F:FT}{v:V}:Fr.put ⟨n,F⟩ u v=if u<n then ⟨n,FT.set F u v⟩ else ⟨n,F⟩:=by
 unfold Fr.put;cases h:i5 u n with
 |true=>rw[oh]at h;rw[az h];rfl
 |false=>rw[an];intro g;rw[<- oh]at g;rw[h]at g;cases g
theorem Fr.vO{n t:Nat}{F:FT}:Fr.get ⟨n,F⟩ t=if t<n then some (F.get t) else none:=by
 unfold Fr.get;cases h:i5 t n with
 |true=>rw[oh]at h;rw[az h]
 |false=>rw[an];intro g;rw[<- oh]at g;rw[h]at g;cases g
section
variable {E:Env}{fr:Fr}{Z:Sg}{ops:Array cd}{l:List cd}{Q:Fr->Sg->Prop}{dst:Option Nat}{op:Op}{ty:Nat}{pos:String}{after:Array Edge}
theorem Cy:uL E ops (⟨dst,op,ty,pos,after,none⟩::l) fr Z Q=kZ E op fr Z λv Z=>uL E ops l (cW fr dst v) Z Q:=by
 rw[wpOps_cons];exact az rfl
end
section
variable {E:Env}{fr:Fr}{Z:Sg}{K:V->Sg->Prop}
theorem dK{o:Option (V × Sg)}:got o K=(match o with
  |some (v,Z)=>K v Z
  |none=>False):=rfl
def app3(a b c:List V):Option (List V):=some (a++b++c)
theorem M_{x:χ}:kZ E (.move x) fr Z K=(match (aS fr x).map (·,Z) with
  |some (v,Z)=>K v Z
  |none=>False):=(b_ (f:=λfr Z=>(aS fr x).map (·,Z)) rfl).trans dK
theorem HF{x:χ}:kZ E (.assign x) fr Z K=(match (aS fr x).map (·,Z) with
  |some (v,Z)=>K v Z
  |none=>False):=(b_ (f:=λfr Z=>(aS fr x).map (·,Z)) rfl).trans dK
theorem M8{c a b:χ}:kZ E (.pick c a b) fr Z K=(match kH E fr Z c a b with
  |some (v,Z)=>K v Z
  |none=>False):=(b_ (f:=λfr Z=>kH E fr Z c a b) rfl).trans dK
theorem JX{e:Nat}:kZ E (.alloc e) fr Z K=(match tD E fr Z e with
  |some (v,Z)=>K v Z
  |none=>False):=(b_ (f:=λfr Z=>tD E fr Z e) rfl).trans dK
theorem OV{e:Nat}{x:χ}:kZ E (.box e x) fr Z K=(match Iu E fr Z e x with
  |some (v,Z)=>K v Z
  |none=>False):=(b_ (f:=λfr Z=>Iu E fr Z e x) rfl).trans dK
theorem JV{t:Nat}{parts:Array (Nat × χ)}:kZ E (.build t parts) fr Z K=(match rG E fr Z t parts with
  |some (v,Z)=>K v Z
  |none=>False):=(b_ (f:=λfr Z=>rG E fr Z t parts) rfl).trans dK
theorem B4{t len:Nat}{parts:Array (Nat × χ)}:kZ E (.buildSlice t len parts) fr Z K=(match fL E fr Z t len parts with
  |some (v,Z)=>K v Z
  |none=>False):=by
 refine propext ⟨λ⟨_,v,σ',h,hk⟩=>?_,λh=>?_⟩
 ·have h:fL E fr Z t len parts=some (v,σ'):=h;rw[h];exact hk
 ·split at h
  ·rename_i v σ' e;exact⟨0,v,σ',e,h⟩
  ·exact h.elim
theorem Na{t:Nat}{a:χ}:kZ E (.load t a) fr Z K=(match iS E fr Z t a with
  |some (v,Z)=>K v Z
  |none=>False):=(b_ (f:=λfr Z=>iS E fr Z t a) rfl).trans dK
theorem JQ{t:Nat}{a x:χ}:kZ E (.store t a x) fr Z K=(match kG E fr Z t a x with
  |some (v,Z)=>K v Z
  |none=>False):=(b_ (f:=λfr Z=>kG E fr Z t a x) rfl).trans dK
theorem Ez{x:χ}:kZ E (.nilCheck x) fr Z K=(match jS E fr Z x with
  |some (v,Z)=>K v Z
  |none=>False):=(b_ (f:=λfr Z=>jS E fr Z x) rfl).trans dK
theorem JW{op:BinOp}{t u:Nat}{x y:χ}:kZ E (.binOp op t x y u) fr Z K=(match eY E fr Z op t x y with
  |some (v,Z)=>K v Z
  |none=>False):=(b_ (f:=λfr Z=>eY E fr Z op t x y) rfl).trans dK
theorem M7{op:UnOp}{t:Nat}{x:χ}:kZ E (.unOp op t x) fr Z K=(match oQ E fr Z op x with
  |some (v,Z)=>K v Z
  |none=>False):=(b_ (f:=λfr Z=>oQ E fr Z op x) rfl).trans dK
theorem Gn{s d:Nat}{x:χ}:kZ E (.convert s d x) fr Z K=(match mW E fr Z s d x with
  |some (v,Z)=>K v Z
  |none=>False):=(b_ (f:=λfr Z=>mW E fr Z s d x) rfl).trans dK
theorem JS{t:Nat}{x:χ}:kZ E (.range t x) fr Z K=(match qA E fr Z t x with
  |some (v,Z)=>K v Z
  |none=>False):=(b_ (f:=λfr Z=>qA E fr Z t x) rfl).trans dK
theorem M9{x:χ}:kZ E (.next x true) fr Z K=(match xG E fr Z x with
  |some (v,Z)=>K v Z
  |none=>False):=(b_ (f:=λfr Z=>xG E fr Z x) rfl).trans dK
theorem xQ{t:Nat}{x:χ}:kZ E (.makeInterface t x) fr Z K=(match eE E fr Z t x with
  |some (v,Z)=>K v Z
  |none=>False):=(b_ (f:=λfr Z=>eE E fr Z t x) rfl).trans dK
theorem EA{f:Nat}{a b:Array χ}:kZ E (.makeFunc (.func f) a b) fr Z K=(match jT E fr Z f a b with
  |some (v,Z)=>K v Z
  |none=>False):=(b_ (f:=λfr Z=>jT E fr Z f a b) rfl).trans dK
theorem Gl{t:Nat}{r:Option χ}:kZ E (.makeMap t r) fr Z K=(match mV E fr Z t r with
  |some (v,Z)=>K v Z
  |none=>False):=(b_ (f:=λfr Z=>mV E fr Z t r) rfl).trans dK
theorem CA{t:Nat}{l c:χ}:kZ E (.makeSlice t l c) fr Z K=(match kI E fr Z t l c with
  |some (v,Z)=>K v Z
  |none=>False):=(b_ (f:=λfr Z=>kI E fr Z t l c) rfl).trans dK
theorem JR{t:Nat}{x:χ}{lo hi mx:Option χ}:kZ E (.slice t x lo hi mx) fr Z K=(match tA E fr Z t x lo hi mx with
  |some (v,Z)=>K v Z
  |none=>False):=(b_ (f:=λfr Z=>tA E fr Z t x lo hi mx) rfl).trans dK
theorem CC{t f:Nat}{x:χ}:kZ E (.fieldAddr t x f) fr Z K=(match iK E fr Z t x f with
  |some (v,Z)=>K v Z
  |none=>False):=(b_ (f:=λfr Z=>iK E fr Z t x f) rfl).trans dK
theorem JU{t f:Nat}{x:χ}:kZ E (.field t x f) fr Z K=(match rF E fr Z t x f with
  |some (v,Z)=>K v Z
  |none=>False):=(b_ (f:=λfr Z=>rF E fr Z t x f) rfl).trans dK
theorem CB{t:Nat}{x i:χ}:kZ E (.indexAddr t x i) fr Z K=(match cB E fr Z t x i with
  |some (v,Z)=>K v Z
  |none=>False):=(b_ (f:=λfr Z=>cB E fr Z t x i) rfl).trans dK
theorem JT{t:Nat}{x i:χ}:kZ E (.index t x i) fr Z K=(match rE E fr Z t x i with
  |some (v,Z)=>K v Z
  |none=>False):=(b_ (f:=λfr Z=>rE E fr Z t x i) rfl).trans dK
theorem HE{t:Nat}{x k:χ}{ok:Bool}:kZ E (.lookup t x k ok) fr Z K=(match eB E fr Z t x k ok with
  |some (v,Z)=>K v Z
  |none=>False):=(b_ (f:=λfr Z=>eB E fr Z t x k ok) rfl).trans dK
theorem Cz{t:Nat}{m k x:χ}:kZ E (.mapUpdate t m k x) fr Z K=(match dZ E fr Z t m k x with
  |some (v,Z)=>K v Z
  |none=>False):=(b_ (f:=λfr Z=>dZ E fr Z t m k x) rfl).trans dK
theorem Gm{t:χ}{i:Nat}:kZ E (.extract t i) fr Z K=(match cZ E fr Z t i with
  |some (v,Z)=>K v Z
  |none=>False):=(b_ (f:=λfr Z=>cZ E fr Z t i) rfl).trans dK
theorem Gp{b:Builtin}{args:Array χ}{ats:Array Nat}:kZ E (.call { callee:=.builtin b,args:=args,argTypes:=ats }) fr Z K=(match eN E fr Z b args ats with
  |some (v,Z)=>K v Z
  |none=>False):=by
 refine propext ⟨λ⟨_,v,σ',h,hk⟩=>?_,λh=>?_⟩
 ·have h:eN E fr Z b args ats=some (v,σ'):=by cases b <;> exact h
  rw[h];exact hk
 ·split at h
  ·rename_i v σ' e;exact⟨0,v,σ',by cases b <;> exact e,h⟩
  ·exact h.elim
theorem Nb{f:χ}{args:Array χ}{ats:Array Nat}:kZ E (.call { callee:=.value f,args:=args,argTypes:=ats }) fr Z K=match aS fr f,eJ fr args.toList with
  |some (.fn k first cap),some l=>(match app3 first l cap with
   |some l=>aB E k l Z K
   |none=>False)
  |_,_=>False:=by
 refine propext ⟨λ⟨n,v,σ',h,hk⟩=>?_,λh=>?_⟩
 ·have h:(match aS fr f,eJ fr args.toList with
   |some (.fn k first cap),some l=>iH E (ev E n) k (first++l++cap) Z
   |_,_=>no "call")=some (v,σ'):=h
  split at h
  ·exact⟨n,v,σ',h,hk⟩
  ·cases h
 ·split at h
  ·rename_i e1 e2;obtain⟨n,v,σ',h,hk⟩:=h;refine⟨n,v,σ',?_,hk⟩
   show (match aS fr f,eJ fr args.toList with
    |some (.fn k first cap),some l=>iH E (ev E n) k (first++l++cap) Z
    |_,_=>no "call")=some (v,σ')
   rw[e1,e2];exact h
  ·exact h.elim
def GJ(E:Env)(rs:List ResultVar)(K:V->Sg->Prop)(fr:Fr)(Z:Sg):Prop:=match results E fr Z rs with
 |some [v]=>K v Z
 |some vs=>K (.fR vs) Z
 |none=>False
def oC(E:Env)(F:Fn)(args:List V)(Z:Sg)(K:V->Sg->Prop):Prop:=match Fr.init F.ntmps args with
 |none=>False
 |some fr=>Wp E F.code fr Z λx fr Z=>match x with
  | .exit _=>False
  |_=>GJ E F.results K fr Z
theorem uO{F:Fn}{args:List V}:oC E F args Z K ↔ ∃n v σ',enter E (ev E n) F args Z=some (v,σ')/\K v σ':=by
 unfold oC enter;cases hi:Fr.init F.ntmps args with
 |none=>exact⟨λh=>h.elim,λ⟨_,_,_,h,_⟩=>by cases h⟩
 |some fr=>
  try dsimp only
  constructor
  ·rintro⟨n,x,fr',σ',h,hq⟩;refine⟨n,?_⟩;rw[h];cases x with
   |exit id=>exact hq.elim
   |normal=>
    simp only[GJ]at hq;split at hq
    ·rename_i v e;exact⟨v,σ',by simp only[e],hq⟩
    ·rename_i vs hn e;refine⟨.fR vs,σ',?_,hq⟩;simp only[e]
    ·exact hq.elim
   |ret=>
    simp only[GJ]at hq;split at hq
    ·rename_i v e;exact⟨v,σ',by simp only[e],hq⟩
    ·rename_i vs hn e;refine⟨.fR vs,σ',?_,hq⟩;simp only[e]
    ·exact hq.elim
  ·rintro⟨n,v,σ',h,hk⟩
   have fin:∀(fr1:Fr)(σ1:Sg),(match results E fr1 σ1 F.results with
     |some [v]=>some (v,σ1)
     |some vs=>some (V.fR vs,σ1)
     |none=>no "results")=some (v,σ')->GJ E F.results K fr1 σ1:=by
    intro fr1 σ1 h;unfold GJ;split at h
    ·cases h;exact hk
    ·rename_i vs hn e;cases h;cases vs with
     |nil=>exact hk
     |cons a l=>cases l with
      |nil=>exact absurd rfl (hn a)
      |cons b l=>exact hk
    ·cases h
   cases he:ev E n F.code fr Z with
   |none=>rw[he]at h;cases h
   |some y=>
    obtain⟨x,fr1,σ1⟩:=y;rw[he]at h;refine⟨n,x,fr1,σ1,he,?_⟩;cases x with
    |exit id=>cases h
    |normal=>exact fin _ _ h
    |ret=>exact fin _ _ h
theorem mO{f:Nat}{args:List V}{s:List V->Sg->Option (V × Sg)}(h1:E.hspec f=some s):aB E f args Z K=got (s args Z) K:=by
 unfold aB iH;rw[h1];dsimp only;cases s args Z with
 |none=>exact propext ⟨λ⟨_,_,_,h,_⟩=>(by cases h),λh=>h.elim⟩
 |some y=>exact propext ⟨λ⟨_,_,_,h,hk⟩=>(by cases h;exact hk),λh=>⟨0,_,_,rfl,h⟩⟩
theorem qR{f:Nat}{args args':List V}{s:List V->Option V}{v v':V}(h1:E.hspec f=none)(h2:E.spec f=some s)(h3:aW (aR Z E.ty true) args=some args')(h4:s args'=some v)(h5:cQ [] E.ty false v=some v'):aB E f args Z K=K v' Z:=by
 have:∀r,iH E r f args Z=some (v',Z):=λr=>by
  unfold iH;rw[h1,h2,h3];dsimp only;rw[h4];dsimp only;rw[h5]
 exact propext ⟨λ⟨n,_,_,h,hk⟩=>(by rw[this]at h;cases h;exact hk),λh=>⟨0,_,_,this _,h⟩⟩
theorem cJ{f:Nat}{args:List V}{F:Fn}(h1:E.hspec f=none)(h2:E.spec f=none)(h3:E.fn f=some F)(h4:E.mode f=.shared):aB E f args Z K=oC E F args Z K:=by
 rw[propext uO];unfold aB iH;rw[h1,h2,h3,h4];dsimp only;refine propext ⟨λ⟨n,v,σ',h,hk⟩=>⟨n,v,σ',?_,hk⟩,λ⟨n,v,σ',h,hk⟩=>⟨n,v,σ',by rw[h],hk⟩⟩;split at h
 ·rename_i e;rw[e];exact h
 ·cases h
theorem aH{f:Nat}{args args':List V}{F:Fn}(h1:E.hspec f=none)(h2:E.spec f=none)(h3:E.fn f=some F)(h4:E.mode f=.eW)(h5:aW (aR Z E.ty true) args=some args') :
  aB E f args Z K=oC E F args' [] λv σ1=>match cQ σ1 E.ty false v with
   |some v=>K v Z
   |none=>False:=by
 rw[propext uO];unfold aB iH;rw[h1,h2,h3,h4];dsimp only;rw[h5];dsimp only;refine propext ⟨λ⟨n,v,σ',h,hk⟩=>?_,λ⟨n,v,σ',h,hk⟩=>?_⟩
 ·cases he:enter E (ev E n) F args' [] with
  |none=>rw[he]at h;cases h
  |some y=>
   obtain⟨u,σ1⟩:=y;rw[he]at h;dsimp only at h;refine⟨n,u,σ1,he,?_⟩;cases hs:cQ σ1 E.ty false u with
   |none=>rw[hs]at h;cases h
   |some v1=>rw[hs]at h;cases h;exact hk
 ·cases hs:cQ σ' E.ty false v with
  |none=>rw[hs]at hk;exact hk.elim
  |some v1=>
   rw[hs]at hk;refine⟨n,v1,Z,?_,hk⟩;rw[h];dsimp only;rw[hs];rfl
theorem oC.mono{F:Fn}{args:List V}{K':V->Sg->Prop}(h:oC E F args Z K)(hk:∀v Z,K v Z->K' v Z):oC E F args Z K':=by
 rw[uO]at h ⊢;obtain⟨n,v,σ',h,hk'⟩:=h;exact⟨n,v,σ',h,hk _ _ hk'⟩
theorem aB.mono{f:Nat}{args:List V}{K':V->Sg->Prop}(h:aB E f args Z K)(hk:∀v Z,K v Z->K' v Z):aB E f args Z K':=by
 obtain⟨n,v,σ',h,hk'⟩:=h;exact⟨n,v,σ',h,hk _ _ hk'⟩
def Md:List cd->Bool
 | []=>true
 |o::l=>(match o.op with
  | .buildSlice ..=>false
  | .call { callee:=.builtin .append,.. }=>false
  |_=>true)&&Md l
theorem NL{ev:yQ}{dr:Fz}{op:Op}{fr:Fr}(h:(match op with
  | .buildSlice ..=>false
  | .call { callee:=.builtin .append,.. }=>false
  |_=>true)=true):lD E ev dr op fr Z=lD E ev .no op fr Z:=by
 cases op with
 |buildSlice t len parts=>cases h
 |call cc=>
  obtain⟨callee,args,ats⟩:=cc;cases callee with
  |builtin b=>cases b <;> first | rfl | cases h
  |_=>rfl
 |_=>rfl
theorem BP{ev:yQ}{dr:Fz}{ops:Array cd}:∀{l:List cd}{fr:Fr}{Z:Sg},Md l=true->gY E ev dr ops l fr Z=gY E ev .no ops l fr Z
 | [],_,_,_=>rfl
 |o::l,fr,Z,h=>by
  simp only[Md,ak]at h
  have e:bN E ev dr ops o fr Z=bN E ev .no ops o fr Z:=by
   unfold bN;rw[NL h.1]
  rw[gY,gY,e];cases bN E ev .no ops o fr Z with
  |none=>rfl
  |some y=>exact BP h.2
def aN(E:Env):Code->Bool
 | .region _ ops true=>(match cK E (fP E ops) ops with
  |some []=>true
  |_=>false)&&(Md ops.toList||(match fP E ops with | .no=>true | _=>false))
 |_=>false
def bS:Code->Code
 | .region id ops _=>.region id ops false
 |c=>c
theorem M5{c:Code}{fr:Fr}{Q:X->Fr->Sg->Prop}(h:aN E c=true):Wp E c fr Z Q=Wp E (bS c) fr Z Q:=by
 unfold aN at h;split at h
 case h_2=>cases h
 rename_i id ops;rw[ak]at h;obtain⟨h1,h2⟩:=h;show _=Wp E (.region id ops false) fr Z Q;rw[Ln,OU];unfold Sl uL cP;cases hp:cK E (fP E ops) ops with
 |none=>rw[hp]at h1;cases h1
 |some l=>
  rw[hp]at h1;cases l with
  |cons d l=>cases h1
  |nil=>
   simp only;cases hd:fP E ops with
   |no=>rfl
   |_=>
    rw[hd]at h2;simp only[qz]at h2;simp only[BP h2]
def opsOf:Code->Array cd
 | .region _ ops _=>ops
 |_=>#[]
def cutAt:List Nat->Code->Code
 | [],c=>c
 |0::p,.seq a _=>cutAt p a
 |1::p,.seq _ b=>cutAt p b
 |2::p,.block _ c=>cutAt p c
 |2::p,.loop c=>cutAt p c
 |0::p,.cond _ a _=>cutAt p a
 |1::p,.cond _ _ b=>cutAt p b
 |_,c=>c
end
theorem Vu:((0:Nat):Int)=0:=rfl
theorem VQ:(0:Int).toNat=0:=rfl
theorem XQ:(false==true)=false:=rfl
theorem XP:(true==false)=false:=rfl
inductive iT where
 |k (c:Code) | blk (id:Nat) | lp (c:Code)
def M(E:Env):List iT->X->Fr->Sg->(X->Fr->Sg->Prop)->Prop
 | [],x,fr,Z,Q=>Q x fr Z
 | .k c::s,.normal,fr,Z,Q=>Wp E c fr Z λx fr Z=>M E s x fr Z Q
 | .k _::s,x,fr,Z,Q=>M E s x fr Z Q
 | .blk id::s,.exit i,fr,Z,Q=>if i=id then M E s .normal fr Z Q else M E s (.exit i) fr Z Q
 | .blk _::s,x,fr,Z,Q=>M E s x fr Z Q
 | .lp c::s,.normal,fr,Z,Q=>Wp E (.loop c) fr Z λx fr Z=>M E s x fr Z Q
 | .lp _::s,x,fr,Z,Q=>M E s x fr Z Q
def R(E:Env)(c:Code)(s:List iT)(fr:Fr)(Z:Sg)(Q:X->Fr->Sg->Prop):Prop:=Wp E c fr Z λx fr Z=>M E s x fr Z Q
def dP(E:Env)(ops:Array cd)(l:List cd)(st:Option (Fr × Sg))(s:List iT)(Q:X->Fr->Sg->Prop):Prop:=match st with
 |some (fr,Z)=>uL E ops l fr Z λfr Z=>M E s .normal fr Z Q
 |none=>False
def xZ(dst:Option Nat)(fr:Fr)(o:Option (V × Sg)):Option (Fr × Sg):=match o with
 |some (v,Z)=>some (cW fr dst v,Z)
 |none=>none
def Au(E:Env)(f:Nat)(args:List V)(Z:Sg)(dst:Option Nat)(fr:Fr)(ops:Array cd)(l:List cd)(s:List iT)(Q:X->Fr->Sg->Prop):Prop:=aB E f args Z λv Z=>dP E ops l (some (cW fr dst v,Z)) s Q
section
variable {E:Env}{s:List iT}{fr:Fr}{Z:Sg}{Q:X->Fr->Sg->Prop}
theorem QA{x:X}:M E [] x fr Z Q=Q x fr Z:=rfl
theorem NS{c:Code}:M E (.k c::s) .normal fr Z Q=R E c s fr Z Q:=rfl
theorem QC{c:Code}{i:Nat}:M E (.k c::s) (.exit i) fr Z Q=M E s (.exit i) fr Z Q:=rfl
theorem Tr{c:Code}:M E (.k c::s) .ret fr Z Q=M E s .ret fr Z Q:=rfl
theorem aa1{id:Nat}:M E (.blk id::s) .normal fr Z Q=M E s .normal fr Z Q:=rfl
theorem KB{id i:Nat}:M E (.blk id::s) (.exit i) fr Z Q=if i=id then M E s .normal fr Z Q else M E s (.exit i) fr Z Q:=rfl
theorem NT{id:Nat}:M E (.blk id::s) .ret fr Z Q=M E s .ret fr Z Q:=rfl
theorem m_lp{c:Code}:M E (.lp c::s) .normal fr Z Q=R E (.loop c) s fr Z Q:=rfl
theorem NR{c:Code}{i:Nat}:M E (.lp c::s) (.exit i) fr Z Q=M E s (.exit i) fr Z Q:=rfl
theorem QB{c:Code}:M E (.lp c::s) .ret fr Z Q=M E s .ret fr Z Q:=rfl
theorem Kn:R E .skip s fr Z Q=M E s .normal fr Z Q:=wp_skip
theorem WB{i:Nat}:R E (.exit i) s fr Z Q=M E s (.exit i) fr Z Q:=wp_exit
theorem ZL:R E .ret s fr Z Q=M E s .ret fr Z Q:=wp_ret
theorem ZK{a b:Code}:R E (.seq a b) s fr Z Q=R E a (.k b::s) fr Z Q:=by
 unfold R;rw[wp_seq];congr 1;funext x fr Z;cases x <;> rfl
theorem Te{id:Nat}{c:Code}:R E (.block id c) s fr Z Q=R E c (.blk id::s) fr Z Q:=by
 unfold R;rw[wp_block];congr 1;funext x fr Z;cases x <;> rfl
theorem aF{c:Code}:R E (.loop c) s fr Z Q=R E c (.lp c::s) fr Z Q:=by
 unfold R;rw[wp_loop];congr 1;funext x fr Z;cases x <;> rfl
def KX(o:Option V):Option Bool:=match o with
 |some (.bool b)=>some b
 |_=>none
theorem Jm{b:Bool}:KX (some (.bool b))=some b:=rfl
theorem WC{c:χ}{t e:Code}:R E (.cond c t e) s fr Z Q=if KX (aS fr c)=some true then R E t s fr Z Q else if KX (aS fr c)=some false then R E e s fr Z Q else False:=by
 unfold R;rw[wp_cond];cases aS fr c with
 |none=>rfl
 |some v=>
  cases v with
  |bool b=>cases b <;> rfl
  |_=>rfl
theorem ZM{id:Nat}{l:List cd}:R E (.region id l.toArray false) s fr Z Q=dP E l.toArray l (some (fr,Z)) s Q:=OU
theorem aX{c:Code}(h:aN E c=true):R E c s fr Z Q=R E (bS c) s fr Z Q:=M5 h
variable {ops:Array cd}{l:List cd}{dst:Option Nat}{ty:Nat}{pos:String}{after:Array Edge}
theorem Xb:dP E ops l none s Q=False:=rfl
theorem aa6:dP E ops [] (some (fr,Z)) s Q=M E s .normal fr Z Q:=M6
theorem TQ{op:Op}{j:Nat}{w:Bool}:dP E ops (⟨dst,op,ty,pos,after,some (j,w)⟩::l) (some (fr,Z)) s Q=if yielded ops fr j=some w then dP E ops (⟨dst,op,ty,pos,after,none⟩::l) (some (fr,Z)) s Q else dP E ops l (some (cW fr dst .undef,Z)) s Q:=by
 show uL E ops (⟨dst,op,ty,pos,after,some (j,w)⟩::l) fr Z _=_;rw[wpOps_cons];by_cases h:yielded ops fr j=some w
 ·rw[az h,az (by show (yielded ops fr j==some w)=true;rw[h];simp)];exact Cy.symm
 ·rw[an h,an]
  ·rfl
  ·intro g;have g:(yielded ops fr j==some w)=true:=g;exact h (by simpa using g)
theorem nI{op:Op}{o:Option (V × Sg)}(h:∀K,kZ E op fr Z K=(match o with
  |some (v,Z)=>K v Z
  |none=>False)):dP E ops (⟨dst,op,ty,pos,after,none⟩::l) (some (fr,Z)) s Q=dP E ops l (xZ dst fr o) s Q:=by
 show uL E ops (⟨dst,op,ty,pos,after,none⟩::l) fr Z _=_;rw[Cy,h];cases o with
 |none=>rfl
 |some y=>rfl
theorem Xd{x:χ}:dP E ops (⟨dst,.move x,ty,pos,after,none⟩::l) (some (fr,Z)) s Q=dP E ops l (xZ dst fr ((aS fr x).map (·,Z))) s Q:=nI λ_=>M_
theorem Q9{x:χ}:dP E ops (⟨dst,.assign x,ty,pos,after,none⟩::l) (some (fr,Z)) s Q=dP E ops l (xZ dst fr ((aS fr x).map (·,Z))) s Q:=nI λ_=>HF
theorem Xa{c a b:χ}:dP E ops (⟨dst,.pick c a b,ty,pos,after,none⟩::l) (some (fr,Z)) s Q=dP E ops l (xZ dst fr (kH E fr Z c a b)) s Q:=nI λ_=>M8
theorem TY{e:Nat}:dP E ops (⟨dst,.alloc e,ty,pos,after,none⟩::l) (some (fr,Z)) s Q=dP E ops l (xZ dst fr (tD E fr Z e)) s Q:=nI λ_=>JX
theorem aa7{e:Nat}{x:χ}:dP E ops (⟨dst,.box e x,ty,pos,after,none⟩::l) (some (fr,Z)) s Q=dP E ops l (xZ dst fr (Iu E fr Z e x)) s Q:=nI λ_=>OV
theorem TW{t:Nat}{parts:Array (Nat × χ)}:dP E ops (⟨dst,.build t parts,ty,pos,after,none⟩::l) (some (fr,Z)) s Q=dP E ops l (xZ dst fr (rG E fr Z t parts)) s Q:=nI λ_=>JV
theorem G7{t len:Nat}{parts:Array (Nat × χ)}:dP E ops (⟨dst,.buildSlice t len parts,ty,pos,after,none⟩::l) (some (fr,Z)) s Q=dP E ops l (xZ dst fr (fL E fr Z t len parts)) s Q:=nI λ_=>B4
theorem Xe{t:Nat}{a:χ}:dP E ops (⟨dst,.load t a,ty,pos,after,none⟩::l) (some (fr,Z)) s Q=dP E ops l (xZ dst fr (iS E fr Z t a)) s Q:=nI λ_=>Na
theorem TL{t:Nat}{a x:χ}:dP E ops (⟨dst,.store t a x,ty,pos,after,none⟩::l) (some (fr,Z)) s Q=dP E ops l (xZ dst fr (kG E fr Z t a x)) s Q:=nI λ_=>JQ
theorem KJ{x:χ}:dP E ops (⟨dst,.nilCheck x,ty,pos,after,none⟩::l) (some (fr,Z)) s Q=dP E ops l (xZ dst fr (jS E fr Z x)) s Q:=nI λ_=>Ez
theorem TX{op:BinOp}{t:Nat}{x y:χ}{u:Nat}:dP E ops (⟨dst,.binOp op t x y u,ty,pos,after,none⟩::l) (some (fr,Z)) s Q=dP E ops l (xZ dst fr (eY E fr Z op t x y)) s Q:=nI λ_=>JW
theorem W9{op:UnOp}{t:Nat}{x:χ}:dP E ops (⟨dst,.unOp op t x,ty,pos,after,none⟩::l) (some (fr,Z)) s Q=dP E ops l (xZ dst fr (oQ E fr Z op x)) s Q:=nI λ_=>M7
theorem N6{u d:Nat}{x:χ}:dP E ops (⟨dst,.convert u d x,ty,pos,after,none⟩::l) (some (fr,Z)) s Q=dP E ops l (xZ dst fr (mW E fr Z u d x)) s Q:=nI λ_=>Gn
theorem TN{t:Nat}{x:χ}:dP E ops (⟨dst,.range t x,ty,pos,after,none⟩::l) (some (fr,Z)) s Q=dP E ops l (xZ dst fr (qA E fr Z t x)) s Q:=nI λ_=>JS
theorem Ca{t:Nat}{x:χ}:dP E ops (⟨dst,.makeInterface t x,ty,pos,after,none⟩::l) (some (fr,Z)) s Q=dP E ops l (xZ dst fr (eE E fr Z t x)) s Q:=nI λ_=>xQ
theorem N4{t:Nat}{r:Option χ}:dP E ops (⟨dst,.makeMap t r,ty,pos,after,none⟩::l) (some (fr,Z)) s Q=dP E ops l (xZ dst fr (mV E fr Z t r)) s Q:=nI λ_=>Gl
theorem IW{t:Nat}{a c:χ}:dP E ops (⟨dst,.makeSlice t a c,ty,pos,after,none⟩::l) (some (fr,Z)) s Q=dP E ops l (xZ dst fr (kI E fr Z t a c)) s Q:=nI λ_=>CA
theorem TM{t:Nat}{x:χ}{lo hi mx:Option χ}:dP E ops (⟨dst,.slice t x lo hi mx,ty,pos,after,none⟩::l) (some (fr,Z)) s Q=dP E ops l (xZ dst fr (tA E fr Z t x lo hi mx)) s Q:=nI λ_=>JR
theorem IY{t:Nat}{x:χ}{f:Nat}:dP E ops (⟨dst,.fieldAddr t x f,ty,pos,after,none⟩::l) (some (fr,Z)) s Q=dP E ops l (xZ dst fr (iK E fr Z t x f)) s Q:=nI λ_=>CC
theorem TU{t:Nat}{x:χ}{f:Nat}:dP E ops (⟨dst,.field t x f,ty,pos,after,none⟩::l) (some (fr,Z)) s Q=dP E ops l (xZ dst fr (rF E fr Z t x f)) s Q:=nI λ_=>JU
theorem IX{t:Nat}{x i:χ}:dP E ops (⟨dst,.indexAddr t x i,ty,pos,after,none⟩::l) (some (fr,Z)) s Q=dP E ops l (xZ dst fr (cB E fr Z t x i)) s Q:=nI λ_=>CB
theorem TP{t:Nat}{x i:χ}:dP E ops (⟨dst,.index t x i,ty,pos,after,none⟩::l) (some (fr,Z)) s Q=dP E ops l (xZ dst fr (rE E fr Z t x i)) s Q:=nI λ_=>JT
theorem Q7{t:Nat}{x k:χ}{ok:Bool}:dP E ops (⟨dst,.lookup t x k ok,ty,pos,after,none⟩::l) (some (fr,Z)) s Q=dP E ops l (xZ dst fr (eB E fr Z t x k ok)) s Q:=nI λ_=>HE
theorem IU{t:Nat}{m k x:χ}:dP E ops (⟨dst,.mapUpdate t m k x,ty,pos,after,none⟩::l) (some (fr,Z)) s Q=dP E ops l (xZ dst fr (dZ E fr Z t m k x)) s Q:=nI λ_=>Cz
theorem N5{t:χ}{i:Nat}:dP E ops (⟨dst,.extract t i,ty,pos,after,none⟩::l) (some (fr,Z)) s Q=dP E ops l (xZ dst fr (cZ E fr Z t i)) s Q:=nI λ_=>Gm
theorem Xc{x:χ}:dP E ops (⟨dst,.next x true,ty,pos,after,none⟩::l) (some (fr,Z)) s Q=dP E ops l (xZ dst fr (xG E fr Z x)) s Q:=nI λ_=>M9
theorem KK{f:Nat}{a b:Array χ}:dP E ops (⟨dst,.makeFunc (.func f) a b,ty,pos,after,none⟩::l) (some (fr,Z)) s Q=dP E ops l (xZ dst fr (jT E fr Z f a b)) s Q:=nI λ_=>EA
theorem N7{b:Builtin}{args:Array χ}{ats:Array Nat}:dP E ops (⟨dst,.call { callee:=.builtin b,args:=args,argTypes:=ats },ty,pos,after,none⟩::l) (some (fr,Z)) s Q=dP E ops l (xZ dst fr (eN E fr Z b args ats)) s Q:=nI λ_=>Gp
theorem Xg{f:χ}{args:List χ}{ats:Array Nat}:dP E ops (⟨dst,.call { callee:=.value f,args:=args.toArray,argTypes:=ats },ty,pos,after,none⟩::l) (some (fr,Z)) s Q=match aS fr f,eJ fr args with
  |some (.fn k first cap),some l'=>Au E k (first++l'++cap) Z dst fr ops l s Q
  |_,_=>False:=by
 show uL E ops (⟨dst,.call { callee:=.value f,args:=args.toArray,argTypes:=ats },ty,pos,after,none⟩::l) fr Z _=_;rw[Cy,Nb];rfl
theorem oK{f:Nat}{args:List V}{v:V}{σ':Sg}(h:∀K,aB E f args Z K=K v σ'):Au E f args Z dst fr ops l s Q=dP E ops l (some (cW fr dst v,σ')) s Q:=h _
abbrev KC(E:Env)(f:Nat)(args:List V)(Z:Sg)(v:V)(σ':Sg):Prop:=∀(dst:Option Nat)(fr:Fr)(ops:Array cd)(l:List cd)(s:List iT)(Q:X->Fr->Sg->Prop),Au E f args Z dst fr ops l s Q=dP E ops l (some (cW fr dst v,σ')) s Q
theorem dX{f:Nat}{args:List V}{v:V}{σ':Sg}(h:∀K,aB E f args Z K=K v σ'):KC E f args Z v σ':=λ_ _ _ _ _ _=>h _
theorem aK{f:Nat}{args:List V}{P:V->Sg->Prop}(h:aB E f args Z P)(hp:∀v σ',P v σ'->dP E ops l (some (cW fr dst v,σ')) s Q):Au E f args Z dst fr ops l s Q:=h.mono hp
end
theorem iW{E:Env}{s:List iT}{fr fr':Fr}{Z σ':Sg}{Q:X->Fr->Sg->Prop}{id n:Nat}{ops:Array cd}(h:cP E (ev E n) ops fr Z=some (fr',σ')):R E (.region id ops true) s fr Z Q=M E s .normal fr' σ' Q:=by
 unfold R;rw[Ln];refine propext ⟨λ⟨m,fr1,σ1,h1,hq⟩=>?_,λhq=>⟨n,fr',σ',h,hq⟩⟩;have a:=vS (nB E (Nat.le_max_left n m)) h;rw[vS (nB E (qj n m)) h1]at a;cases a;exact hq
def nV(E:Env)(rs:List ResultVar)(K:V->Sg->Prop)(x:X)(fr:Fr)(Z:Sg):Prop:=match x with
 | .exit _=>False
 |_=>GJ E rs K fr Z
theorem Ur{E:Env}{rs:List ResultVar}{K:V->Sg->Prop}{fr:Fr}{Z:Sg}:nV E rs K .ret fr Z=GJ E rs K fr Z:=rfl
theorem KU{E:Env}{rs:List ResultVar}{K:V->Sg->Prop}{fr:Fr}{Z:Sg}:nV E rs K .normal fr Z=GJ E rs K fr Z:=rfl
theorem Xy{E:Env}{F:Fn}{args:List V}{Z:Sg}{K:V->Sg->Prop}{fr:Fr}(h:Fr.init F.ntmps args=some fr):oC E F args Z K=R E F.code [] fr Z (nV E F.results K):=by
 unfold oC;rw[h];show Wp E F.code fr Z _=Wp E F.code fr Z _;congr 1
theorem ab5{F:FT}{u:Nat}{v:V}:(FT.set F u v).get u=v:=by rw[FT.bX,az rfl]
theorem ab4{F:FT}{t u:Nat}{v:V}(h:t≠u):(FT.set F u v).get t=F.get t:=by rw[FT.bX,an h]
def FT.fill(F:FT)(i:Nat):List V->FT
 | []=>F
 |v::r=>FT.fill (FT.set F i v) (i+1) r
theorem ac2{F:FT}{i:Nat}:FT.fill F i []=F:=rfl
theorem ac1{F:FT}{i:Nat}{v:V}{r:List V}:FT.fill F i (v::r)=FT.fill (FT.set F i v) (i+1) r:=rfl
abbrev GS:=θ @ab5 (θ @ab4 (θ @ac2 (θ @ac1 @Vu)))
theorem fill_eq{n:Nat}:∀(l:List V)(F:FT)(i:Nat),i+l.length<=n->Fr.fill ⟨n,F⟩ i l=⟨n,FT.fill F i l⟩
 | [],_,_,_=>rfl
 |v::l,F,i,h=>by
  simp only[IT]at h;rw[Fr.fill,Fr.u_,az (by omega),fill_eq l _ _ (by omega)];rfl
theorem aU{E:Env}{F:Fn}{args:List V}{Z:Sg}{K:V->Sg->Prop}(h:Nat.ble args.length F.ntmps=true):oC E F args Z K=R E F.code [] ⟨F.ntmps,FT.fill .leaf 0 args⟩ Z (nV E F.results K):=by
 refine Xy ?_;unfold Fr.init;rw[h];dsimp only;rw[fill_eq _ _ _ (by rw[dc];exact jl h)]
end
end Go.Ax
namespace Go.Proofs.YtmbikbgdbbcbmaaGreatDoor
open Go Go.Ax
abbrev KP:=(θ (θ (θ (θ (θ (θ (θ (θ @Vu @VQ) (θ @XQ @XP)) (θ (θ @QA @NS) (θ @QC @Tr))) (θ (θ (θ @aa1 @KB) (θ @NT @m_lp)) (θ (θ @NR @QB) (θ @Kn @WB)))) (θ (θ (θ (θ @ZL @ZK) (θ @Te @WC)) (θ (θ @ZM @Jm) (θ @Ur @KU))) (θ (θ (θ @Xd @Q9) (θ @Xa @TY)) (θ (θ @aa7 @TW) (θ @G7 @Xe))))) (θ (θ (θ (θ (θ @TL @KJ) (θ @TX @W9)) (θ (θ @N6 @TN) (θ @Xc @Ca))) (θ (θ (θ @KK @N4) (θ @IW @TM)) (θ (θ @IY @TU) (θ @IX @TP)))) (θ (θ (θ (θ @Q7 @IU) (θ @N5 @N7)) (θ (θ @Xg @TQ) (θ @aa6 @Xb))) (θ (θ (θ @Ax.Fr.u_ @Ax.Fr.vO) (θ @FT.bX @FT.vP)) (θ (θ @bf.{1} @b9.{1}) (θ @ite_true.{1} @ite_false.{1})))))) (θ (θ (θ (θ (θ (θ @true_and @da) (θ @false_and @and_false)) (θ (θ @ck.{0,0} @Option.map_none.{0,0}) (θ @gh.{0,0} @Option.bind_none.{0,0}))) (θ (θ (θ @j7.{0} @ay.{0}) (θ @Option.getD_none.{0} @gw.{0})) (θ (θ @ja.{0} @bh.{0}) (θ @cm.{0} @List.getElem?_nil.{0})))) (θ (θ (θ (θ @cn.{0} @dm) (θ @mg @j8)) (θ (θ @qz @Bool.false_or) (θ @Bool.or_true @Bool.true_or))) (θ (θ (θ @ai @Bool.true_eq_false) (θ @jd @me)) (θ (θ @l8 @Bool.and_false) (θ @qa @qi.{0}))))) (θ (θ (θ (θ (θ @beq_self_eq_true.{0} @qf) (θ @decide_false @Nat.beq_refl)) (θ (θ @IT.{0} @aq.{0}) (θ @jq.{0} @oo.{0}))) (θ (θ (θ @take_nil.{0} @ez.{0}) (θ @mz.{0} @mc.{0})) (θ (θ @List.append_eq.{0} @cz.{0}) (θ @ey.{0} @gy.{0})))) (θ (θ (θ (θ @kj.{0} @nt.{0}) (θ @dc @l6)) (θ (θ @iy.{0} @ki.{0}) (θ @j6.{0} @OF))) (θ (θ (θ @Int.natCast_nonneg @Hi) (θ @jH @QV)) (θ (θ @HA @Gx) (θ @gp.{0} (θ @Bool.not_eq_true @ne_eq.{1})))))))) (θ (θ (θ (θ (θ (θ (θ @not_true_eq_false @od) (θ @gt_iff_lt.{0} @bt)) (θ (θ @FT.fill.eq_1 @FT.fill.eq_2) (θ @xZ.eq_1 @xZ.eq_2))) (θ (θ (θ @Ax.yielded.eq_1 @aS.eq_1) (θ @aS.eq_2 @aS.eq_3)) (θ (θ @aS.eq_4 @eJ.eq_1) (θ @eJ.eq_2 @lX.eq_1)))) (θ (θ (θ (θ @lX.eq_2 @qK.eq_1) (θ @qK.eq_2 @Ax.ofValue.eq_1)) (θ (θ @Ax.ofValue.eq_2 @bI.eq_1) (θ @bI.eq_2 @bI.eq_3))) (θ (θ (θ @bI.eq_4 @bI.eq_5) (θ @bI.eq_6 @bI.eq_7)) (θ (θ @bI.eq_8 @bI.eq_9) (θ @Ax.ofValues.eq_1 @Ax.ofValues.eq_2))))) (θ (θ (θ (θ (θ @cW.eq_1 @cW.eq_2) (θ @kH.eq_1 @tD.eq_1)) (θ (θ @Iu.eq_1 @rG.eq_1) (θ @fL.eq_1 @iS.eq_1))) (θ (θ (θ @kG.eq_1 @jS.eq_1) (θ @eY.eq_1 @oQ.eq_1)) (θ (θ @mW.eq_1 @eE.eq_1) (θ @jT.eq_1 @mV.eq_1)))) (θ (θ (θ (θ @kI.eq_1 @tA.eq_1) (θ @iK.eq_1 @rF.eq_1)) (θ (θ @cB.eq_1 @rE.eq_1) (θ @eB.eq_1 @dZ.eq_1))) (θ (θ (θ @cZ.eq_1 @eN.eq_1) (θ @Ax.builtin.eq_1 @Ax.builtin.eq_2)) (θ (θ @Ax.builtin.eq_3 @Ax.builtin.eq_4) (θ @Ax.builtin.eq_5 (θ @Ax.builtin.eq_6 @Ax.builtin.eq_7))))))) (θ (θ (θ (θ (θ (θ @Ax.builtin.eq_8 @Ax.builtin.eq_9) (θ @Ax.builtin.eq_10 @Ax.builtin.eq_11)) (θ (θ @Ax.builtin.eq_12 @Ax.isAgg.eq_1) (θ @Ax.isAgg.eq_2 @Ax.isAgg.eq_3))) (θ (θ (θ @G9.eq_1 @G9.eq_2) (θ @G9.eq_3 @Ax.fieldAddr.eq_1)) (θ (θ @Ax.field.eq_1 @Ax.field.eq_2) (θ @Ax.part.eq_1 @Ax.bin.eq_1)))) (θ (θ (θ (θ @Ax.bin.eq_2 @Ax.bin.eq_3) (θ @Ax.bin.eq_4 @Ax.bin.eq_5)) (θ (θ @Ax.bin.eq_6 @Ax.bin.eq_7) (θ @uE.eq_1 @uE.eq_2))) (θ (θ (θ @uE.eq_3 @uE.eq_4) (θ @uE.eq_5 @uE.eq_6)) (θ (θ @uE.eq_7 @uE.eq_8) (θ @Ax.arith.eq_1 @Ax.arith.eq_2))))) (θ (θ (θ (θ (θ @Ax.arith.eq_3 @Ax.arith.eq_4) (θ @Ax.arith.eq_5 @Ax.arith.eq_6)) (θ (θ @Ax.arith.eq_7 @Ax.arith.eq_8) (θ @Ax.arith.eq_9 @Ax.arith.eq_10))) (θ (θ (θ @Ax.arith.eq_11 @Ax.arith.eq_12) (θ @Ax.arith.eq_13 @Ax.arith.eq_14)) (θ (θ @Ax.arith.eq_15 @Ax.arith.eq_16) (θ @Ax.unop.eq_1 @Ax.unop.eq_2)))) (θ (θ (θ (θ @Ax.unop.eq_3 @Ax.isConst.eq_1) (θ @Ax.isConst.eq_2 @Ax.V.aZ.eq_1)) (θ (θ @Ax.V.aZ.eq_2 @Ax.V.aZ.eq_3) (θ @Ax.V.aZ.eq_4 @Ax.V.cells.eq_1))) (θ (θ (θ @Ax.V.cells.eq_2 @Ax.setCells.eq_1) (θ @GJ.eq_1 @Ax.results.eq_1)) (θ (θ @Ax.results.eq_2 @Ax.results.eq_3) (θ @Ax.Fr.init.eq_1 (θ @Ax.Fr.fill.eq_1 @Ax.Fr.fill.eq_2)))))))))
end Go.Proofs.YtmbikbgdbbcbmaaGreatDoor
namespace Go.Ax
open Go
theorem mJ{a0 a1 r:Prop}(h:a0/\a1)(k:r):a0/\a1/\r:=by simp only[h,k,aj]
theorem fK{a0 a1 a2 r:Prop}(h:a0/\a1/\a2)(k:r):a0/\a1/\a2/\r:=by simp only[h,k,aj]
theorem fZ{a0 a1 a2 a3 r:Prop}(h:a0/\a1/\a2/\a3)(k:r):a0/\a1/\a2/\a3/\r:=by simp only[h,k,aj]
theorem kA{a0 a1 a2 a3 a4 r:Prop}(h:a0/\a1/\a2/\a3/\a4)(k:r):a0/\a1/\a2/\a3/\a4/\r:=by simp only[h,k,aj]
theorem sF{a0 a1 a2 a3 a4 a5 r:Prop}(h:a0/\a1/\a2/\a3/\a4/\a5)(k:r):a0/\a1/\a2/\a3/\a4/\a5/\r:=by simp only[h,k,aj]
theorem Ef{a0 a1 a2 a3 a4 a5 a6 r:Prop}(h:a0/\a1/\a2/\a3/\a4/\a5/\a6)(k:r):a0/\a1/\a2/\a3/\a4/\a5/\a6/\r:=by simp only[h,k,aj]
theorem BV{a0 a1 a2 a3 a4 a5 a6 a7 a8 r:Prop}(h:a0/\a1/\a2/\a3/\a4/\a5/\a6/\a7/\a8)(k:r):a0/\a1/\a2/\a3/\a4/\a5/\a6/\a7/\a8/\r:=by simp only[h,k,aj]
theorem KW{a0 a1 a2 a3 a4 a5 a6 a7 a8 a9 r:Prop}(h:a0/\a1/\a2/\a3/\a4/\a5/\a6/\a7/\a8/\a9)(k:r):a0/\a1/\a2/\a3/\a4/\a5/\a6/\a7/\a8/\a9/\r:=by simp only[h,k,aj]
inductive eL {α β:Type} (P:α->β->Prop):List α->List β->Prop
 |nil:eL P [] []
 |cons {a b l m}:P a b->eL P l m->eL P (a::l) (b::m)
namespace eL
variable {α β:Type}{P Q:α->β->Prop}{l l':List α}{m m':List β}
theorem len(h:eL P l m):l.length=m.length:=by
 induction h with
 |nil=>rfl
 |cons _ _ ih=>simp[ih]
theorem append(h:eL P l m)(k:eL P l' m'):eL P (l++l') (m++m'):=by
 induction h with
 |nil=>exact k
 |cons p _ ih=>exact .cons p ih
theorem take(h:eL P l m):∀n,eL P (l.take n) (m.take n):=by
 induction h with
 |nil=>intro n;rw[take_nil,take_nil];exact .nil
 |cons p _ ih=>
  intro n;cases n with
  |zero=>exact .nil
  |succ n=>exact .cons p (ih n)
theorem drop(h:eL P l m):∀n,eL P (l.drop n) (m.drop n):=by
 induction h with
 |nil=>intro n;rw[mc,mc];exact .nil
 |cons p q ih=>
  intro n;cases n with
  |zero=>exact .cons p q
  |succ n=>exact ih n
theorem get(h:eL P l m):∀(i:Nat)(x:β),m[i]?=some x->∃r,l[i]?=some r/\P r x:=by
 induction h with
 |nil=>intro i x e;cases e
 |cons p _ ih=>
  intro i x e;cases i with
  |zero=>cases e;exact⟨_,rfl,p⟩
  |succ i=>exact ih i x e
theorem mem(h:eL P l m){r:α}(hr:r∈l):∃x∈m,P r x:=by
 induction h with
 |nil=>cases hr
 |cons p _ ih=>
  rcases IN.1 hr with rfl | hr
  ·exact⟨_,No ..,p⟩
  ·obtain⟨x,h1,h2⟩:=ih hr;exact⟨x,ae _ h1,h2⟩
theorem imp(h:eL P l m)(k:∀a b,P a b->Q a b):eL Q l m:=by
 induction h with
 |nil=>exact .nil
 |cons p _ ih=>exact .cons (k _ _ p) ih
theorem one{a:α}{b:β}(p:P a b):eL P [a] [b]:=.cons p .nil
theorem map{γ:Type}{f:γ->α}{g:γ->β}(k:∀c,P (f c) (g c)):∀l:List γ,eL P (l.map f) (l.map g)
 | []=>.nil
 |c::l=>.cons (k c) (map k l)
end eL
def bE:V->Bool
 | .bV .. | .cR .. | .imp .. | .bool _ | .int .. | .str _ | .fV | .aG | .cA | .rH | .rT=>true
 |_=>false
theorem aQ{c:V}(h:bE c=true):c.aZ=true:=by cases c <;> first | rfl | cases h
theorem jQ{Z:Sg}{ty:Nat->Option Ty}{g:Bool}{n:Nat}{c:V}(h:bE c=true):bA Z ty g (n+1) c=some c:=by
 cases c <;> first | rfl | cases h
theorem bZ{Z:Sg}{ty:Nat->Option Ty}{g:Bool}{c:V}(h:bE c=true)(ht:cI g c=true):aR Z ty g c=some c:=by
 have e:aR.one Z ty g c=some c:=by
  unfold aR.one;rw[show dN=11+1 from rfl,jQ h];simp only[ht,bf]
 cases c <;> first | exact e | cases h
theorem E5{Z:Sg}{ty:Nat->Option Ty}{g:Bool}{c:V}(h:bE c=true)(ht:cI g c=true):cQ Z ty g c=some c:=by
 have:=bZ (Z:=Z) (ty:=ty) h ht;cases c <;> first | exact this | cases h
theorem bJ{c:V}(h:bE c=true):cI true c=true:=by cases c <;> first | rfl | cases h
theorem gH{α:Type}{f:α->Option α}:∀{l:List α},(∀x∈l,f x=some x)->aW f l=some l
 | [],_=>rfl
 |x::l,h=>by rw[aW,h x (No ..),gH λy hy=>h y (ae _ hy)]
theorem CY{Z:Sg}{ty:Nat->Option Ty}{g:Bool}{b n t:Nat}{cs:List V}{ex:Bool}{i:Ty}(hb:Z[b]?=some (.cells t cs ex))(hty:ty t=some i)(hlen:n*i.size<=cs.length)
  (hi:∀c∈cs.take (n*i.size),bE c=true/\cI g c=true):∃full,aR Z ty g (.sl b 0 n none)=some (.bV g (rows i.size n (cs.take (n*i.size))) full):=by
 have hm:aW (λv=>match bA Z ty g 11 v with
   |some v=>if cI g v then some v else no "snap: borrowed"
   |none=>none) ((cs.drop 0).take (n*i.size))=some (cs.take (n*i.size)):=by
  rw[ez];refine gH λx hx=>?_;rw[show 11=10+1 from rfl,jQ (hi x hx).1];simp only[(hi x hx).2,bf]
 refine⟨ex&&decide (0<i.size)&&(0+n*i.size==cs.length),?_⟩
 show (match bA Z ty g 12 (.sl b 0 n none) with
  |some v=>if cI g v then some v else no "snap: borrowed"
  |none=>none)=_
 have e:bA Z ty g 12 (.sl b 0 n none)=some (.bV g (rows i.size n (cs.take (n*i.size))) (ex&&decide (0<i.size)&&(0+n*i.size==cs.length))):=by
  rw[bA];simp only[hb,hty];rw[az (by omega)]
  exact b8 (λo=>match o with
   |some l=>some (V.bV g (rows i.size n l) (ex&&decide (0<i.size)&&(0+n*i.size==cs.length)))
   |none=>none) hm
 rw[e];show (if (g || !g)=true then _ else _)=_;rw[az (by cases g <;> rfl)]
theorem mS{sz:Nat}:∀(rs:List (List V)),(∀r∈rs,r.length=sz)->rows sz rs.length rs.flatten=rs
 | [],_=>rfl
 |r::rs,h=>by
  have hr:=h r (No ..);rw[IT,rows,dn,je (by omega),ah (by omega),List.drop_append_of_le_length (by omega),ju (by omega),cz,mS rs λx hx=>h x (ae _ hx)]
theorem oI{sz:Nat}:∀(rs:List (List V)),(∀r∈rs,r.length=sz)->rs.flatten.length=rs.length*sz
 | [],_=>by simp
 |r::rs,h=>by
  rw[dn,By,h r (No ..),oI rs λx hx=>h x (ae _ hx),IT,jg,lu]
theorem DR{sz:Nat}:∀(rs:List (List V)),(∀r∈rs,r.length=sz)->∀(i:Nat)(r:List V),rs[i]?=some r->(rs.flatten.drop (i*sz)).take sz=r
 | [],_,i,r,e=>by cases e
 |x::rs,h,0,r,e=>by
  cases e;have hr:=h x (No ..);rw[gz,ez,dn,je (by omega),ah (by omega)]
 |x::rs,h,i+1,r,e=>by
  have hr:=h x (No ..);rw[dn,List.drop_append,ju (by rw[jg];omega),cz,show (i+1)*sz-x.length=i*sz by rw[jg];omega];exact DR rs (λy hy=>h y (ae _ hy)) i r e
structure Lay (α:Type) where
 P:List V->α->Prop
 n:Nat
 len:∀r x,P r x->r.length=n
 im:∀r x,P r x->∀c∈r,bE c=true
def IS{α:Type}(L:Lay α)(v:V)(l:List α):Prop:=(v=.aG/\l=[])\/∃g rs full,v=.bV g rs full/\eL L.P rs l
def kQ{α:Type}(L:Lay α)(v:V)(l:List α):Prop:=(v=.aG/\l=[])\/∃rs full,v=.bV false rs full/\eL L.P rs l
def LS{α:Type}(L:Lay α)(t:Nat)(Z:Sg)(v:V)(l:List α):Prop:=IS L v l\/∃b cs ex rs,v=.sl b 0 l.length none/\Z[b]?=some (.cells t cs ex)/\eL L.P rs l/\cs.take (l.length*L.n)=rs.flatten
def OS{α:Type}(L:Lay α)(t:Nat)(lo:Nat)(Z:Sg)(v:V)(l:List α):Prop:=(v=.aG/\l=[])\/∃b rs,lo<=b/\v=.sl b 0 l.length none/\Z[b]?=some (.cells t rs.flatten false)/\eL L.P rs l
section
variable {α:Type}{L:Lay α}{E:Env}{Z:Sg}{v:V}{l:List α}{t:Nat}
theorem kQ.is(h:kQ L v l):IS L v l:=h.imp id λ⟨rs,full,e,a⟩=>⟨false,rs,full,e,a⟩
theorem IS.ls(h:IS L v l)(Z:Sg)(t:Nat):LS L t Z v l:=.inl h
theorem IS.bE(h:IS L v l):bE v=true:=by rcases h with⟨rfl,-⟩ | ⟨_,_,_,rfl,-⟩ <;> rfl
theorem kQ.tag(h:kQ L v l):cI false v=true:=by rcases h with⟨rfl,-⟩ | ⟨_,_,rfl,-⟩ <;> rfl
theorem Lay.lens{rs:List (List V)}(h:eL L.P rs l):∀r∈rs,r.length=L.n:=λr hr=>by
 obtain⟨x,-,hx⟩:=h.mem hr;exact L.len r x hx
theorem Lay.flat{rs:List (List V)}(h:eL L.P rs l):rs.flatten.length=l.length*L.n:=by rw[oI rs (Lay.lens h),h.len]
theorem OS.ls{lo:Nat}(h:OS L t lo Z v l):LS L t Z v l:=by
 rcases h with h | ⟨b,rs,-,e,hb,ha⟩
 ·exact .inl (.inl h)
 ·exact .inr ⟨b,_,_,rs,e,hb,ha,ah (by rw[Lay.flat ha];exact OF _)⟩
theorem LS.keep{Y:Sg}(h:LS L t Z v l)(k:∀(b t:Nat)(cs:List V)(ex:Bool),Z[b]?=some (.cells t cs ex)->Y[b]?=some (.cells t cs ex)):LS L t Y v l:=
 h.imp id λ⟨b,cs,ex,rs,e,hb,r⟩=>⟨b,cs,ex,rs,e,k _ _ _ _ hb,r⟩
theorem OS.keep{Y:Sg}{lo:Nat}(h:OS L t lo Z v l)(k:∀(b t:Nat)(cs:List V)(ex:Bool),lo<=b->Z[b]?=some (.cells t cs ex)->Y[b]?=some (.cells t cs ex)):OS L t lo Y v l:=
 h.imp id λ⟨b,rs,hl,e,hb,r⟩=>⟨b,rs,hl,e,k _ _ _ _ hl hb,r⟩
theorem lV{ts e:Nat}{si:Ty}(hts:E.ty ts=some si)(hk:si.kd=.sl e)(h:LS L t Z v l):lenOf E Z ts v=some l.length:=by
 unfold lenOf;rw[hts];simp only[hk];rcases h with (⟨rfl,rfl⟩ | ⟨g,rs,full,rfl,ha⟩) | ⟨b,cs,ex,rs,rfl,-⟩
 ·rfl
 ·show some rs.length=_;rw[ha.len]
 ·rfl
theorem Eo{ts:Nat}{si ei:Ty}(hts:E.ty ts=some si)(hk:si.kd=.sl t)(ht:E.ty t=some ei)(hn:ei.size=L.n)(h:LS L t Z v l){i:Nat}{x:α}(hx:l[i]?=some x) :
  ∃p r,indexAddr E ts v (.int .i64 (i:Int))=some p/\L.P r x/\(isAgg ei.kd=true->loadAt E Z t p=some (.agg r))/\(isAgg ei.kd=false->0<L.n->loadAt E Z t p=r.head?) /\
   ((∃g,p=.cR g r)\/∃b o,p=.ref b o/\∃u cs ex,Z[b]?=some (.cells u cs ex)/\o+L.n<=cs.length/\(cs.drop o).take L.n=r):=by
 have hneg:¬ ((i:Int)<0):=by omega
 obtain⟨kd,size,bytes,zero⟩:=si;replace hk:kd=.sl t:=hk;subst hk;rcases h with (⟨rfl,rfl⟩ | ⟨g,rs,full,rfl,ha⟩) | ⟨b,cs,ex,rs,rfl,hb,ha,hc⟩
 ·cases hx
 ·obtain⟨r,hr,hp⟩:=ha.get i x hx;have hl:=L.len r x hp;refine⟨.cR g r,r,?_,hp,λhg=>?_,λhg hn0=>?_,.inl ⟨g,rfl⟩⟩
  ·unfold indexAddr;simp only[hneg,b9,hts,ht,dx,hr];rw[az (by rw[hl,hn];exact qi)]
  ·unfold loadAt;simp only[ht,hg,bf];rw[az (by omega),ah (by omega)]
  ·unfold loadAt;simp only[ht,hg,ai,b9]
 ·obtain⟨r,hr,hp⟩:=ha.get i x hx;have hi:=(AI.1 hx).1;have hl:=L.len r x hp;have hfl:=Lay.flat ha
  have hlen:l.length*L.n<=cs.length:=by
   have:=b8 List.length hc;rw[bl,hfl]at this;omega
  have him:(i+1)*L.n<=l.length*L.n:=gk _ hi;rw[jg]at him;have ho:i*L.n+L.n<=cs.length:=by omega
  have hd:(cs.drop (i*L.n)).take L.n=r:=by
   have:=DR rs (Lay.lens ha) i r hr;rw[<- hc,List.drop_take,nr,mq (by omega)]at this;exact this
  refine⟨.ref b (i*L.n),r,?_,hp,λhg=>?_,λhg hn0=>?_,.inr ⟨b,_,rfl,_,_,_,hb,ho,hd⟩⟩
  ·unfold indexAddr;simp only[hneg,b9,hts,ht,dx];rw[az hi,hn,dc]
  ·unfold loadAt;simp only[ht,hb,hg,bf];rw[hn,az ho,hd]
  ·unfold loadAt;simp only[ht,hb,hg,ai,b9];rw[<- hd,List.head?_take,an (by omega),List.head?_drop]
theorem Cl{ei:Ty}(ht:E.ty t=some ei)(hn:ei.size=L.n)(h:LS L t Z v l):∃v',aR Z E.ty true v=some v'/\IS L v' l:=by
 rcases h with h | ⟨b,cs,ex,rs,rfl,hb,ha,hc⟩
 ·exact⟨v,bZ h.bE (bJ h.bE),h⟩
 ·have hlen:l.length*L.n<=cs.length:=by
   have:=b8 List.length hc;rw[bl,Lay.flat ha]at this;omega
  obtain⟨full,e⟩:=CY (g:=true) (n:=l.length) hb ht (by rw[hn];exact hlen) (λc hcm=>by
   rw[hn,hc]at hcm;obtain⟨r,hr,hcr⟩:=List.mem_flatten.1 hcm;obtain⟨x,-,hp⟩:=ha.mem hr;have:=L.im r x hp c hcr;exact⟨this,bJ this⟩)
  refine⟨_,e,.inr ⟨true,rs,full,?_,ha⟩⟩;rw[hn,hc,<- ha.len,mS rs (Lay.lens ha)]
end
theorem aV{E:Env}{c:Code}{s:List iT}{w:Nat}{Q:X->Fr->Sg->Prop}(I:Nat->FT->Sg->Prop)(n:Nat)
  (step:∀i F Z,i<n->I i F Z->(∀F' σ',I (i+1) F' σ'->R E (.loop c) s ⟨w,F'⟩ σ' Q)->R E (.loop c) s ⟨w,F⟩ Z Q)
  (fin:∀F Z,I n F Z->R E (.loop c) s ⟨w,F⟩ Z Q):∀(k i:Nat)(F:FT)(Z:Sg),i+k=n->I i F Z->R E (.loop c) s ⟨w,F⟩ Z Q:=by
 intro k
 induction k with
 |zero=>intro i F Z e h;rw[l6]at e;subst e;exact fin F Z h
 |succ k ih=>intro i F Z e h;exact step i F Z (by omega) h λF' σ' h'=>ih (i+1) F' σ' (by omega) h'
end Go.Ax
namespace Go.Ax
open Go
section
def aY{α:Type}(L:Lay α)(t:Nat)(Z:Sg)(v:V)(l:List α):Prop:=(v=.aG/\l=[])\/∃b rs ex,v=.sl b 0 l.length none/\Z[b]?=some (.cells t rs.flatten ex)/\eL L.P rs l
def aO:V->Option Nat
 | .sl b _ _ _=>some b
 |_=>none
def Sp(Z σ':Sg)(w:V):Prop:=∀(c:Nat)(o:O),Z[c]?=some o->aO w≠some c->σ'[c]?=some o
section
variable {α:Type}{L:Lay α}{E:Env}{Z:Sg}{w x:V}{l m:List α}{t ts:Nat}{si ei:Ty}{ats:Array Nat}
theorem aY.ls(h:aY L t Z w l):LS L t Z w l:=by
 rcases h with h | ⟨b,rs,ex,e,hb,ha⟩
 ·exact .inl (.inl h)
 ·exact .inr ⟨b,_,_,rs,e,hb,ha,ah (by rw[Lay.flat ha];exact OF _)⟩
theorem aY.keep{σ':Sg}(h:aY L t Z w l)(k:∀c o,aO w=some c->Z[c]?=some o->σ'[c]?=some o):aY L t σ' w l:=by
 rcases h with h | ⟨b,rs,ex,rfl,hb,ha⟩
 ·exact .inl h
 ·exact .inr ⟨b,rs,ex,rfl,k b _ rfl hb,ha⟩
theorem aY.app(h:aY L t Z w l)(Y:Sg):aY L t (Z++Y) w l:=h.keep λc o _ e=>by
 rw[au (AI.1 e).1];exact e
theorem Sp.refl(Z:Sg)(w:V):Sp Z Z w:=λ_ _ h _=>h
theorem dO{a b c:Nat}(h:roomy b c=true)(hab:a<=b):roomy a c=true:=by
 unfold roomy at h ⊢;rw[af]at h ⊢;generalize 281474976710656=B at h ⊢;have h2:(2*a+256)*(c+1)<=(2*b+256)*(c+1):=gk _ (Nat.add_le_add_right (Nat.mul_le_mul_left 2 hab) 256);exact e8 h2 h
theorem AN{a b c:Nat}(h:roomy b c=true)(hab:a<=b):pV a c=true:=by
 unfold roomy at h;unfold pV;rw[af]at h ⊢;generalize 281474976710656=B at h ⊢;have h2:a*(c+1)<=(2*b+256)*(c+1):=gk _ (by omega);exact e8 h2 h
theorem kB(hts:E.ty ts=some si)(hk:si.kd=.sl t)(ht:E.ty t=some ei)(hn:ei.size=L.n)(hn0:0<L.n)(hpl:eD E ats=true)(hats:ats[0]?=some ts)(h:aY L t Z w l){new:List (List V)}
  (hx:elems Z ei.size x=some (new.flatten,m.length))(hm:eL L.P new m)(hr:roomy (l.length+m.length) ei.bytes=true) :
  ∃w' σ',append E Z ats w x=some (w',σ')/\aY L t σ' w' (l++m)/\Sp Z σ' w/\Z.length<=σ'.length/\∀b,aO w'=some b->aO w=some b\/Z.length<=b:=by
 obtain⟨kd,size,bytes,zero⟩:=si;replace hk:kd=.sl t:=hk;subst hk;have hfm:=Lay.flat hm;have hne:(ei.size==0)=false:=by rw[hn];simp;omega
 have hr2:pV m.length ei.bytes=true:=AN hr (by omega);unfold append;simp only[hats,hts,ht,hpl,hne,hx,dm,j8,ai,b9];rcases h with⟨rfl,rfl⟩ | ⟨b,rs,ex,rfl,hbk,ha⟩
 ·by_cases h0:m.length=0
  ·simp only[h0,bf];obtain rfl:=iu.1 h0;exact⟨_,_,rfl,.inl ⟨rfl,rfl⟩,Sp.refl _ _,OF _,λb e=>by cases e⟩
  ·simp only[h0,b9,hr2,bf];refine⟨_,_,rfl,.inr ⟨Z.length,new,false,by rw[cz],by simp,by rw[cz];exact hm⟩,λc o e _=>?_,by simp,λb e=>by cases e;exact .inr (OF _)⟩;rw[au (AI.1 e).1];exact e
 ·have hfa:=Lay.flat ha;have hlt:=(AI.1 hbk).1
  have hform:(t==t&&decide (l.length*ei.size<=rs.flatten.length)&&roomy (l.length+m.length) ei.bytes)=true:=by
   rw[hr,hfa,hn];simp
  simp only[hbk,dc,hform,dm,ai,b9];by_cases h0:m.length=0
  ·obtain rfl:=iu.1 h0
   have hnew:new=[]:=by
    have:=hm.len;exact iu.1 (by simpa using this)
   subst hnew;rw[az (by rw[hfa,hn];simp)];refine⟨_,_,rfl,.inr ⟨b,rs,ex,by simp,?_,by simpa using ha⟩,λc o e hne=>?_,by simp,λb e=>.inl e⟩
   ·rw[br hlt];unfold ac;rw[hn,ah (by rw[hfa];exact OF _),ju (by rw[hfa];simp)];simp
   ·rw[aa (λe2=>hne (by rw[e2];rfl))];exact e
  ·have hbig:¬ (l.length+m.length)*ei.size<=rs.flatten.length:=by
    rw[hfa,hn,oe];have:0<m.length*L.n:=Nat.mul_pos (Nat.pos_of_ne_zero h0) hn0;omega
   have htk:rs.flatten.take (l.length*ei.size)=rs.flatten:=ah (by rw[hfa,hn];exact OF _);have hfl:rs.flatten++new.flatten=(rs++new).flatten:=by simp
   simp only[hbig,b9,bf,htk,ez,hfl];cases ex with
   |true=>
    refine⟨_,_,rfl,.inr ⟨Z.length,rs++new,false,by simp,by simp,ha.append hm⟩,λc o e _=>?_,by simp,λb e=>by cases e;exact .inr (OF _)⟩;rw[au (AI.1 e).1];exact e
   |false=>
    refine⟨_,_,rfl,.inr ⟨Z.length,rs++new,false,by simp,by simp,ha.append hm⟩,λc o e hne=>?_,by simp,λb e=>by cases e;exact .inr (OF _)⟩;have hc:=(AI.1 e).1;rw[au (by simpa using hc),aa (λe2=>hne (by rw[e2];rfl))];exact e
theorem Se(hts:E.ty ts=some si)(hk:si.kd=.sl t)(ht:E.ty t=some ei)(hn:ei.size=L.n)(hn0:0<L.n)(hpl:eD E ats=true)(hats:ats[0]?=some ts){new:List (List V)}
  (hx:elems Z ei.size x=some (new.flatten,m.length))(hm:eL L.P new m)(hr:pV m.length ei.bytes=true) :
  ∃w' σ',append E Z ats .aG x=some (w',σ')/\aY L t σ' w' m:=by
 obtain⟨kd,size,bytes,zero⟩:=si;replace hk:kd=.sl t:=hk;subst hk;have hne:(ei.size==0)=false:=by rw[hn];simp;omega
 unfold append;simp only[hats,hts,ht,hpl,hne,hx,dm,j8,ai,b9];by_cases h0:m.length=0
 ·simp only[h0,bf];obtain rfl:=iu.1 h0;exact⟨_,_,rfl,.inl ⟨rfl,rfl⟩⟩
 ·simp only[h0,b9,hr,bf];exact⟨_,_,rfl,.inr ⟨Z.length,new,false,rfl,by simp,hm⟩⟩
theorem mI{r:List V}{ex:Bool}{Y:Sg}{n:Nat}(hr:r.length=n):elems (Y++[.cells t r ex]) n (.sl Y.length 0 1 none)=some ([r].flatten,1):=by
 unfold elems;simp[List.take_of_length_le (Nat.le_of_eq hr),hr]
theorem EZ{rs:List (List V)}(h:eL L.P rs l):Gw L.n rs=true:=by
 cases h with
 |nil=>rfl
 |cons p _=>show (_==_)=true;rw[L.len _ _ p];exact qi
theorem sA(ia:IS L x l)(Z:Sg):∃rs,elems Z L.n x=some (rs.flatten,l.length)/\eL L.P rs l:=by
 rcases ia with⟨rfl,rfl⟩ | ⟨g,rs,full,rfl,ha⟩
 ·exact⟨[],rfl,.nil⟩
 ·exact⟨rs,by unfold elems;simp only[];rw[az (EZ ha),ha.len],ha⟩
theorem Jg(ia:LS L t Z x l):∃rs,elems Z L.n x=some (rs.flatten,l.length)/\eL L.P rs l:=by
 rcases ia with ia | ⟨b,cs,ex,rs,rfl,hb,ha,hc⟩
 ·exact sA ia Z
 ·refine⟨rs,?_,ha⟩
  have:l.length*L.n<=cs.length:=by
   have:=b8 List.length hc;rw[bl,Lay.flat ha]at this;omega
  unfold elems;simp only[hb,dc,ez];rw[az this,hc]
theorem eL.set{β γ:Type}{P:β->γ->Prop}{a:List β}{b:List γ}(h:eL P a b){r:β}{y:γ}(hr:P r y):∀i,eL P (a.set i r) (b.set i y):=by
 induction h with
 |nil=>intro i;cases i <;> exact .nil
 |cons p q ih=>
  intro i;cases i with
  |zero=>exact .cons hr q
  |succ i=>exact .cons p (ih i)
theorem C4{sz:Nat}:∀(rs:List (List V)) (i:Nat) (r:List V),(∀x∈rs,x.length=sz)->r.length=sz->i<rs.length->ac rs.flatten (i*sz) r=(rs.set i r).flatten
 | [],i,r,_,_,h=>by simp at h
 |y::rs,0,r,hl,hr,_=>by
  have hy:=hl y (No ..);unfold ac;rw[gz,jq,cz,dc,kj,dn,dn,hr,<- hy,List.drop_left]
 |y::rs,i+1,r,hl,hr,h=>by
  have hy:=hl y (No ..);have ih:=C4 rs i r (λx hx=>hl x (ae _ hx)) hr (by simpa using h);unfold ac at ih ⊢;rw[nt,dn,dn,<- ih,jg,List.take_append,List.drop_append,ah (by omega),ju (by omega),cz,show i*sz+sz-y.length=i*sz by omega,show i*sz+sz+r.length-y.length=i*sz+r.length by omega,cw,cw,cw]
theorem AB(hts:E.ty ts=some si)(hk:si.kd=.sl t)(ht:E.ty t=some ei)(hn:ei.size=L.n)(h:aY L t Z w l){i:Nat}(hi:i<l.length){u:V}{y:α}(hu:L.P u.cells y)(hok:u.cells.all V.aZ=true) :
  ∃b,indexAddr E ts w (.int .i64 (i:Int))=some (.ref b (i*L.n))/\aO w=some b/\∃σ',storeAt E Z t (.ref b (i*L.n)) u=some σ'/\aY L t σ' w (l.set i y)/\Sp Z σ' w/\σ'.length=Z.length:=by
 obtain⟨kd,size,bytes,zero⟩:=si;replace hk:kd=.sl t:=hk;subst hk;have hneg:¬ ((i:Int)<0):=by omega
 rcases h with⟨rfl,rfl⟩ | ⟨b,rs,ex,rfl,hbk,ha⟩
 ·simp at hi
 ·have hlt:=(AI.1 hbk).1;have hfa:=Lay.flat ha;have hul:=L.len _ _ hu;have him:(i+1)*L.n<=l.length*L.n:=gk _ hi;rw[jg]at him;have hrl:i<rs.length:=by rw[ha.len];exact hi
  refine⟨b,?_,rfl,_,?_,.inr ⟨b,rs.set i u.cells,ex,by rw[dy],br hlt,ha.set hu i⟩,λc o e hne=>?_,by simp⟩
  ·unfold indexAddr;simp only[hneg,b9,hts,ht,dx,hi,bf,hn,dc]
  ·unfold storeAt;simp only[ht,hbk];rw[az (by simp only[hul,hn,hok,me,qi,jd,af];rw[hfa];omega),C4 rs i u.cells (Lay.lens ha) hul hrl]
  ·rw[aa (λe2=>hne (by rw[e2];rfl))];exact e
theorem pQ(ht:E.ty t=some ei)(hn:ei.size=L.n)(hF:∀r x,L.P r x->∀c∈r,cI false c=true)(h:aY L t Z w l):∃v',cQ Z E.ty false w=some v'/\kQ L v' l:=by
 rcases h with⟨rfl,rfl⟩ | ⟨b,rs,ex,rfl,hb,ha⟩
 ·exact⟨.aG,rfl,.inl ⟨rfl,rfl⟩⟩
 ·have hfl:=Lay.flat ha;have htk:rs.flatten.take (l.length*L.n)=rs.flatten:=ah (by omega)
  obtain⟨full,e⟩:=CY (g:=false) (n:=l.length) hb ht (by rw[hn];omega) (λc hcm=>by
   rw[hn,htk]at hcm;obtain⟨r,hr,hcr⟩:=List.mem_flatten.1 hcm;obtain⟨x,-,hp⟩:=ha.mem hr;exact⟨L.im r x hp c hcr,hF r x hp c hcr⟩)
  refine⟨_,e,.inr ⟨rs,full,?_,ha⟩⟩;rw[hn,htk,<- ha.len,mS rs (Lay.lens ha)]
theorem C3{lo hi:Option V}{a b:Nat}(hts:E.ty ts=some si)(hk:si.kd=.sl t)(ht:E.ty t=some ei)(hn:ei.size=L.n)(ia:IS L w l)(hb:hi=none/\b=l.length\/hi=some (.int .i64 (b:Int)))(ha:lo=none/\a=0\/lo=some (.int .i64 (a:Int)))(hab:a<=b)(hbl:b<=l.length) :
  ∃w',(∀Z,slice E Z ts w lo hi none=some w')/\IS L w' ((l.take b).drop a)/\(kQ L w l->kQ L w' ((l.take b).drop a)):=by
 obtain⟨kd,size,bytes,zero⟩:=si;replace hk:kd=.sl t:=hk;subst hk
 have bd:∀(n d:Nat)(o:Option V)(c:Nat),(o=none/\c=d\/o=some (.int .i64 (c:Int)))->c<=n->bound n o d=some c:=by
  intro n d o c h hc;rcases h with⟨rfl,rfl⟩ | rfl
  ·rfl
  ·unfold bound;simp only[];rw[az]
   ·rfl
   ·simp only[ak,af];omega
 rcases ia with⟨rfl,rfl⟩ | ⟨g,rs,full,rfl,hal⟩
 ·have hb0:b=0:=by simpa using hbl
  subst hb0;obtain rfl:a=0:=by omega
  refine⟨.aG,λZ=>?_,.inl ⟨rfl,by simp⟩,λ_=>.inl ⟨rfl,by simp⟩⟩;unfold slice;simp only[hts,ht,ja,l8];rw[show bound 0 none 0=some 0 from rfl];simp only[];rw[bd 0 0 hi 0 (by rcases hb with⟨e,_⟩ | e;exact .inl ⟨e,rfl⟩;exact .inr e) (OF _)];simp only;rw[bd 0 0 lo 0 ha (OF _)]
 ·have hlen:=hal.len
  have hres:eL L.P ((rs.drop a).take (b-a)) ((l.take b).drop a):=by
   rw[show (l.take b).drop a=(l.drop a).take (b-a) by rw[List.drop_take]];exact(hal.drop a).take _
  refine⟨.bV g ((rs.drop a).take (b-a)) (DO none rs.length b full rs.length),λZ=>?_,.inr ⟨g,_,_,rfl,hres⟩,λhF=>.inr ⟨(rs.drop a).take (b-a),DO none rs.length b full rs.length,?_,hres⟩⟩
  ·unfold slice;simp only[hts,ht,ja,l8];rw[hn,EZ hal];simp only[dm,ai,b9];rw[show bound rs.length none rs.length=some rs.length from rfl];simp only;rw[bd rs.length rs.length hi b (by rw[hlen];exact hb) (by omega)];simp only;rw[bd b 0 lo a ha hab]
  ·rcases hF with⟨e,-⟩ | ⟨_,_,e,-⟩
   ·cases e
   ·cases e;rfl
end
end
end Go.Ax
namespace Go.Proofs.YtmbikbgdbbcbmaaGreatDoor
open Go Go.Ax Go.AxS
section
structure bG (E:Env):Prop where
 mP:E.ty 3=some { kd:=.int .i64,size:=1,bytes:=8,zero:=.int .i64 0 }
 Ex:E.ty 4=some { kd:=.bool,size:=1,bytes:=1,zero:=.bool false }
 ty5:E.ty 5=some { kd:=.int .u8,size:=1,bytes:=1,zero:=.int .u8 0 }
 dJ:E.ty 9=some { kd:=.str,size:=1,bytes:=16,zero:=.str [] }
 CK:E.ty 22=some { kd:=.sl 46,size:=1,bytes:=24,zero:=.aG }
 fF:E.ty 23=some { kd:=.sl 51,size:=1,bytes:=24,zero:=.aG }
 bB:E.ty 24=some { kd:=.sl 9,size:=1,bytes:=24,zero:=.aG }
 Pf:E.ty 40=some { kd:=.sl 24,size:=1,bytes:=24,zero:=.aG }
 gA:E.ty 44=some { kd:=.sl 82,size:=1,bytes:=24,zero:=.aG }
 bO:E.ty 46=some { kd:=.jL [(0,9),(1,24),(2,24),(3,24),(4,44)],size:=5,bytes:=112,zero:=.agg [.str [],.aG,.aG,.aG,.aG] }
 bU:E.ty 51=some { kd:=.jL [(0,4),(1,9)],size:=2,bytes:=24,zero:=.agg [.bool false,.str []] }
 ty64:E.ty 64=some { kd:=.int .i64,size:=1,bytes:=8,zero:=.int .i64 0 }
 Pe:E.ty 68=some { kd:=.sl 105,size:=1,bytes:=24,zero:=.aG }
 dF:E.ty 82=some { kd:=.jL [(0,9),(1,3),(2,24),(3,24),(4,3)],size:=5,bytes:=80,zero:=.agg [.str [],.int .i64 0,.aG,.aG,.int .i64 0] }
 HM:E.ty 97=some { kd:=.map 9 9,size:=1,bytes:=8,zero:=.cA }
 rM:E.ty 105=some { kd:=.sl 4,size:=1,bytes:=24,zero:=.aG }
 Yw:E.ty 107=some { kd:=.map 9 24,size:=1,bytes:=8,zero:=.cA }
 uD:E.ty 109=some { kd:=.map 9 4,size:=1,bytes:=8,zero:=.cA }
 Pg:E.ty 115=some { kd:=.sl 3,size:=1,bytes:=24,zero:=.aG }
 abt:E.hspec 197=none
 YU:E.spec 197=none
 acr:E.fn 197=some (aA ky)
 aau:E.mode 197=.eW
 abu:E.hspec 196=none
 YV:E.spec 196=none
 acs:E.fn 196=some (aA Tryz.f196)
 aav:E.mode 196=.eW
 abA:E.hspec 173=none
 Y1:E.spec 173=none
 acz:E.fn 173=some (aA Tryz.f173)
 aaA:E.mode 173=.eW
 ab0:E.hspec 100=none
 Zq:E.spec 100=none
 acZ:E.fn 100=some (aA Tryz.f100)
 aaZ:E.mode 100=.eW
 abB:E.hspec 172=none
 Y2:E.spec 172=none
 acA:E.fn 172=some (aA ao)
 aaB:E.mode 172=.eW
 abI:E.hspec 138=none
 Y9:E.spec 138=none
 acG:E.fn 138=some (aA Tryz.f138)
 aaH:E.mode 138=.eW
 abJ:E.hspec 137=none
 Y_:E.spec 137=none
 acH:E.fn 137=some (aA m8)
 aaI:E.mode 137=.eW
 abU:E.hspec 111=none
 Zk:E.spec 111=none
 acS:E.fn 111=some (aA cx)
 aaT:E.mode 111=.eW
 hs54:E.hspec 54=none
 sp54:E.spec 54=none
 fn54:E.fn 54=some (aA Tryz.f54)
 md54:E.mode 54=.eW
 hs56:E.hspec 56=none
 sp56:E.spec 56=none
 fn56:E.fn 56=some (aA Tryz.f56)
 md56:E.mode 56=.eW
 hs84:E.hspec 84=none
 sp84:E.spec 84=none
 fn84:E.fn 84=some (aA Tryz.f84)
 md84:E.mode 84=.eW
 hs96:E.hspec 96=none
 sp96:E.spec 96=none
 fn96:E.fn 96=some (aA Tryz.f96)
 md96:E.mode 96=.eW
 abT:E.hspec 112=none
 Zj:E.spec 112=none
 acR:E.fn 112=some (aA Tryz.f112)
 aaS:E.mode 112=.eW
 hs46:E.hspec 46=none
 sp46:E.spec 46=none
 fn46:E.fn 46=some (aA cp)
 md46:E.mode 46=.eW
 hs45:E.hspec 45=none
 sp45:E.spec 45=none
 fn45:E.fn 45=some (aA Tryz.f45)
 md45:E.mode 45=.eW
 abV:E.hspec 110=none
 Zl:E.spec 110=none
 acT:E.fn 110=some (aA m7)
 aaU:E.mode 110=.eW
 hs74:E.hspec 74=none
 sp74:E.spec 74=none
 fn74:E.fn 74=some (aA qq)
 md74:E.mode 74=.shared
 hs12:E.hspec 12=none
 PF:E.spec 12=none
 fn12:E.fn 12=some (aA Tryz.f12)
 md12:E.mode 12=.eW
 abk:E.hspec 236=none
 YM:E.spec 236=none
 aci:E.fn 236=some (aA Tryz.f236)
 aam:E.mode 236=.eW
 abe:E.hspec 266=none
 YH:E.spec 266=none
 acd:E.fn 266=some (aA Tryz.f266)
 aah:E.mode 266=.eW
 abj:E.hspec 237=none
 YL:E.spec 237=none
 ach:E.fn 237=some (aA Tryz.f237)
 aal:E.mode 237=.eW
 abf:E.hspec 265=none
 YI:E.spec 265=none
 ace:E.fn 265=some (aA Tryz.f265)
 aai:E.mode 265=.eW
 abr:E.hspec 199=none
 YT:E.spec 199=none
 acq:E.fn 199=some (aA Tryz.f199)
 aat:E.mode 199=.eW
 abx:E.hspec 183=none
 YY:E.spec 183=none
 acv:E.fn 183=some (aA Tryz.f183)
 aax:E.mode 183=.eW
 abG:E.hspec 150=none
 Y7:E.spec 150=none
 acE:E.fn 150=some (aA Tryz.f150)
 aaF:E.mode 150=.eW
 abw:E.hspec 184=none
 YX:E.spec 184=none
 acu:E.fn 184=some (aA Tryz.f184)
 aaw:E.mode 184=.eW
 abq:E.hspec 212=none
 YS:E.spec 212=none
 acp:E.fn 212=some (aA Tryz.f212)
 aas:E.mode 212=.eW
 abz:E.hspec 181=none
 Y0:E.spec 181=none
 acy:E.fn 181=some (aA Tryz.f181)
 aaz:E.mode 181=.eW
 abo:E.hspec 214=none
 YQ:E.spec 214=none
 acn:E.fn 214=some (aA Tryz.f214)
 aaq:E.mode 214=.eW
 abn:E.hspec 215=none
 YP:E.spec 215=none
 acm:E.fn 215=some (aA Tryz.f215)
 aap:E.mode 215=.eW
 aby:E.hspec 182=none
 YZ:E.spec 182=none
 acw:E.fn 182=some (aA Tryz.f182)
 aay:E.mode 182=.eW
 abm:E.hspec 216=none
 YO:E.spec 216=none
 ack:E.fn 216=some (aA Tryz.f216)
 aao:E.mode 216=.eW
 abl:E.hspec 217=none
 YN:E.spec 217=none
 acj:E.fn 217=some (aA Tryz.f217)
 aan:E.mode 217=.eW
 abH:E.hspec 149=none
 Y8:E.spec 149=none
 acF:E.fn 149=some (aA Tryz.f149)
 aaG:E.mode 149=.eW
 abR:E.hspec 119=none
 Zh:E.spec 119=none
 acP:E.fn 119=some (aA dl)
 aaQ:E.mode 119=.eW
 abF:E.hspec 156=none
 Y6:E.spec 156=none
 acD:E.fn 156=some (aA Tryz.f156)
 aaE:E.mode 156=.eW
 abE:E.hspec 157=none
 Y5:E.spec 157=none
 acC:E.fn 157=some (aA Tryz.f157)
 aaD:E.mode 157=.eW
 abD:E.hspec 158=none
 Y4:E.spec 158=none
 acB:E.fn 158=some (aA dp)
 aaC:E.mode 158=.eW
 abQ:E.hspec 120=none
 Zg:E.spec 120=none
 acO:E.fn 120=some (aA Tryz.f120)
 aaP:E.mode 120=.eW
 hs68:E.hspec 68=none
 sp68:E.spec 68=none
 fn68:E.fn 68=some (aA Tryz.f68)
 md68:E.mode 68=.eW
 abg:E.hspec 264=none
 YJ:E.spec 264=none
 acf:E.fn 264=some (aA Tryz.f264)
 aaj:E.mode 264=.eW
 abd:E.hspec 300=none
 YF:E.spec 300=none
 ab9:E.fn 300=some (aA Tryz.f300)
 aag:E.mode 300=.eW
 abc:E.hspec 321=none
 YE:E.spec 321=none
 ab8:E.fn 321=some (aA Tryz.f321)
 aaf:E.mode 321=.eW
 hs82:E.hspec 82=none
 sp82:E.spec 82=none
 fn82:E.fn 82=some (aA Tryz.f82)
 md82:E.mode 82=.eW
 hs80:E.hspec 80=none
 sp80:E.spec 80=none
 fn80:E.fn 80=some (aA Tryz.f80)
 md80:E.mode 80=.eW
 abp:E.hspec 213=none
 YR:E.spec 213=none
 aco:E.fn 213=some (aA Tryz.f213)
 aar:E.mode 213=.eW
 abh:E.hspec 250=none
 YK:E.spec 250=none
 acg:E.fn 250=some (aA Tryz.f250)
 aak:E.mode 250=.eW
 hs99:E.hspec 99=none
 sp99:E.spec 99=none
 fn99:E.fn 99=some (aA Tryz.f99)
 md99:E.mode 99=.eW
 abN:E.hspec 132=none
 Zd:E.spec 132=none
 acL:E.fn 132=some (aA Tryz.f132)
 aaM:E.mode 132=.eW
 hs91:E.hspec 91=none
 sp91:E.spec 91=none
 fn91:E.fn 91=some (aA Tryz.f91)
 md91:E.mode 91=.shared
 abO:E.hspec 122=none
 Ze:E.spec 122=none
 acM:E.fn 122=some (aA Tryz.f122)
 aaN:E.mode 122=.shared
 abv:E.hspec 185=none
 YW:E.spec 185=some kR
 abC:E.hspec 159=none
 Y3:E.spec 159=some oF
 Re:E.hspec 79=some (qF 9)
 XE:aN E (cutAt [1,1,0,1,2,2,1,0,2,1] (aA Tryz.f196).code)=true
 XH:aN E (cutAt [1,0,1,2,2,1,0,2,0] (aA Tryz.f138).code)=true
 VD:fP E (opsOf (cutAt [1,0] (aA m8).code))=.no
 WG:cK E .no (opsOf (cutAt [1,0] (aA m8).code))=some [⟨2,4,true,false⟩,  ⟨2,7,true,false⟩,  ⟨2,10,true,false⟩,  ⟨5,7,true,false⟩,  ⟨5,10,true,false⟩,  ⟨8,10,true,false⟩]
 VC:fP E (opsOf (cutAt [1,1,0,1,2,2,1,0,2,1] (aA m8).code))=.no
 WE:cK E .no (opsOf (cutAt [1,1,0,1,2,2,1,0,2,1] (aA m8).code))=some [⟨7,10,true,false⟩,  ⟨7,14,true,false⟩,  ⟨8,10,true,false⟩,  ⟨8,14,true,false⟩]
 UA:aN E (cutAt [1,1,1,0,1,2,2,1,0,2,1,1,0,1,2,2,1,0,2,0] (aA cx).code)=true
 Uz:aN E (cutAt [1,1,1,1,0,1,2,2,1,0,2,0] (aA cx).code)=true
 XA:aN E (cutAt [1,1,1,1,0,1,2,2,1,0,2,1,2,2,1,0,2,1,2,2,1,0,2] (aA Tryz.f96).code)=true
 XL:aN E (cutAt [1,1,1,1,0,1,2,2,1,0,2,0] (aA Tryz.f112).code)=true
 Uy:aN E (cutAt [1,1,1,1,1,1,1,1,1,1,1,1,1,1,0,1,2,2,1,0,2,1,0,1,2,2,1,0,2,0] (aA Tryz.f112).code)=true
 adn:aN E (cutAt [1,0,1,2,2,1,0,2,1,1,0,0] (aA cp).code)=true
 XD:aN E (cutAt [1,1,1,0,1,2,2,1,0,2,1,1,1,0,0] (aA cp).code)=true
 XC:aN E (cutAt [1,1,1,1,0,1,2,2,1,0,2,1,2,2,1,1,0,2,1,1,0,0] (aA cp).code)=true
 XB:aN E (cutAt [1,1,1,1,1,0,1,1,0,0] (aA cp).code)=true
 VF:fP E (opsOf (cutAt [1,0] (aA m7).code))=.no
 WI:cK E .no (opsOf (cutAt [1,0] (aA m7).code))=some [⟨1,31,false,true⟩,  ⟨3,31,false,true⟩,  ⟨5,31,false,true⟩,  ⟨6,31,false,true⟩,  ⟨8,31,false,true⟩,  ⟨10,31,false,true⟩,  ⟨12,31,false,true⟩,  ⟨13,31,false,true⟩,  ⟨15,31,false,true⟩,  ⟨17,31,false,true⟩,  ⟨19,31,false,true⟩,  ⟨20,31,false,true⟩,  ⟨22,31,false,true⟩,  ⟨24,31,false,true⟩,  ⟨26,31,false,true⟩,  ⟨27,31,false,true⟩,  ⟨29,31,false,true⟩]
 VE:fP E (opsOf (cutAt [1,1,1,0,1,2,2,1,1,0,2,1] (aA m7).code))=.no
 WH:cK E .no (opsOf (cutAt [1,1,1,0,1,2,2,1,1,0,2,1] (aA m7).code))=some [⟨4,38,false,true⟩,  ⟨33,38,false,true⟩,  ⟨35,38,false,true⟩]
 Yl:fP E (opsOf (cutAt [1,0] (aA qq).code))=.app
 Z2:cK E .app (opsOf (cutAt [1,0] (aA qq).code))=some [⟨1,12,false,true⟩,  ⟨3,12,false,true⟩,  ⟨4,12,false,true⟩,  ⟨6,12,false,true⟩,  ⟨7,12,false,true⟩,  ⟨9,12,false,true⟩,  ⟨10,12,false,true⟩]
 Yk:fP E (opsOf (cutAt [1,1,0,1,2,2,1,0,2,1,0] (aA qq).code))=.app
 Z1:cK E .app (opsOf (cutAt [1,1,0,1,2,2,1,0,2,1,0] (aA qq).code))=some []
 Ys:fP E (opsOf (cutAt [1,1,0,1,2,2,1,1,0,2,1,0] (aA Tryz.f12).code))=.lit
 Z9:cK E .lit (opsOf (cutAt [1,1,0,1,2,2,1,1,0,2,1,0] (aA Tryz.f12).code))=some [⟨1,2,true,false⟩]
 XK:aN E (cutAt [1,0,1,2,2,1,1,0,2,1,1,1,0,0] (aA dl).code)=true
 Ux:aN E (cutAt [1,1,1,1,0,1,2,2,1,1,0,2,1,1,0,1,0,0] (aA dl).code)=true
 Uw:aN E (cutAt [1,1,1,1,1,0,1,2,2,1,1,0,2,1,1,0,0] (aA dl).code)=true
 Su:fP E (opsOf (cutAt [1,1,1,1,0,1,2,2,1,1,0,2,1,1,1,1] (aA dp).code))=.no
 Th:cK E .no (opsOf (cutAt [1,1,1,1,0,1,2,2,1,1,0,2,1,1,1,1] (aA dp).code))=some [⟨2,4,false,true⟩]
 adi:aN E (cutAt [1,1,0,1,1,0,0] (aA Tryz.f68).code)=true
 XJ:aN E (cutAt [1,1,0,1,2,2,1,0,2,0] (aA Tryz.f122).code)=true
 Uv:aN E (cutAt [1,1,0,1,2,2,1,0,2,1,0,1,0,1,2,2,1,0,2,0] (aA Tryz.f122).code)=true
def aP:Lay bF:=⟨λr s=>r=[.str s],1,λ_ _ h=>by rw[h];rfl,λ_ _ h c hc=>by rw[h]at hc;cases hc with | head=>rfl | tail _ h=>cases h⟩
def fB:Lay Step:=⟨λr x=>∃a l,r=[.str x.out,.int .i64 x.op,a,l,.int .i64 x.n]/\IS aP a x.args/\IS aP l x.lits,5,λ_ _ ⟨_,_,h,_⟩=>by rw[h];rfl,λ_ _ ⟨a,l,h,h1,h2⟩ c hc=>by
 rw[h]at hc;simp only[IN,bz,ek]at hc;rcases hc with rfl | rfl | rfl | rfl | rfl
 ·rfl
 ·rfl
 ·exact h1.bE
 ·exact h2.bE
 ·rfl⟩
def dU:Lay aD:=⟨λr x=>∃i o a s,r=[.str x.name,i,o,a,s]/\IS aP i x.ins/\IS aP o x.outs/\IS aP a x.after/\IS fB s x.steps,5,λ_ _ ⟨_,_,_,_,h,_⟩=>by rw[h];rfl,λ_ _ ⟨i,o,a,s,h,h1,h2,h3,h4⟩ c hc=>by
 rw[h]at hc;simp only[IN,bz,ek]at hc;rcases hc with rfl | rfl | rfl | rfl | rfl
 ·rfl
 ·exact h1.bE
 ·exact h2.bE
 ·exact h3.bE
 ·exact h4.bE⟩
def Ei:Lay Bool:=⟨λr b=>r=[.bool b],1,λ_ _ h=>by rw[h];rfl,λ_ _ h c hc=>by rw[h]at hc;cases hc with | head=>rfl | tail _ h=>cases h⟩
def uX:Lay (List Bool):=⟨λr l=>∃v,r=[v]/\IS Ei v l,1,λ_ _ ⟨_,h,_⟩=>by rw[h];rfl,λ_ _ ⟨v,h,h1⟩ c hc=>by rw[h]at hc;cases hc with | head=>exact h1.bE | tail _ h=>cases h⟩
section
variable {E:Env}{Z:Sg}{v:V}
theorem gB(h:bG E){s:bF}{Z:Sg}:lenOf E Z 9 (.str s)=some s.length:=by
 unfold lenOf;rw[h.dJ]
theorem IS.at{α:Type}{L:Lay α}{ts t:Nat}{si ei:Ty}{l:List α}(hts:E.ty ts=some si)(hk:si.kd=.sl t)(ht:E.ty t=some ei)(hn:ei.size=L.n)(h:IS L v l){i:Nat}{x:α}(hx:l[i]?=some x) :
  ∃g r,indexAddr E ts v (.int .i64 (i:Int))=some (.cR g r)/\L.P r x:=by
 obtain⟨p,r,h1,h2,-,-,⟨g,rfl⟩ | ⟨b,o,rfl,-⟩⟩:=Eo (Z:=[]) hts hk ht hn (h.ls [] t) hx
 ·exact⟨g,r,h1,h2⟩
 ·exfalso;rcases h with⟨rfl,rfl⟩ | ⟨g,rs,full,rfl,ha⟩
  ·cases hx
  ·unfold indexAddr at h1
   repeat' (split at h1)
   all_goals first
    |(cases h1;done)
    |contradiction
theorem kF(h:bG E):eD E #[24,24]=true:=by
 show (match E.ty 24 with
  |some xi=>!A6 xi.kd
  |none=>false)=true
 rw[h.bB];rfl
theorem bT(h:bG E){l}(ia:IS aP v l)(Z:Sg):lenOf E Z 24 v=some l.length:=lV h.bB rfl (ia.ls Z 9)
theorem U5(h:bG E){l}(ia:IS aP v l){i:Nat}{x}(hx:l[i]?=some x):∃g r,indexAddr E 24 v (.int .i64 (i:Int))=some (.cR g r)/\(aP).P r x:=IS.at h.bB rfl h.dJ rfl ia hx
theorem kS(h:bG E){l}(ha:LS aP 9 Z v l):∃v',aR Z E.ty true v=some v'/\IS aP v' l:=Cl h.dJ rfl ha
theorem BE(h:bG E):eD E #[44,44]=true:=by
 show (match E.ty 44 with
  |some xi=>!A6 xi.kd
  |none=>false)=true
 rw[h.gA];rfl
theorem mE(h:bG E){l}(ia:IS fB v l)(Z:Sg):lenOf E Z 44 v=some l.length:=lV h.gA rfl (ia.ls Z 82)
theorem R6(h:bG E){l}(ia:IS fB v l){i:Nat}{x}(hx:l[i]?=some x):∃g r,indexAddr E 44 v (.int .i64 (i:Int))=some (.cR g r)/\(fB).P r x:=IS.at h.gA rfl h.dF rfl ia hx
theorem CV(h:bG E){l}(ha:LS fB 82 Z v l):∃v',aR Z E.ty true v=some v'/\IS fB v' l:=Cl h.dF rfl ha
theorem vA(h:bG E):eD E #[22,22]=true:=by
 show (match E.ty 22 with
  |some xi=>!A6 xi.kd
  |none=>false)=true
 rw[h.CK];rfl
theorem dH(h:bG E){l}(ia:IS dU v l)(Z:Sg):lenOf E Z 22 v=some l.length:=lV h.CK rfl (ia.ls Z 46)
theorem R7(h:bG E){l}(ia:IS dU v l){i:Nat}{x}(hx:l[i]?=some x):∃g r,indexAddr E 22 v (.int .i64 (i:Int))=some (.cR g r)/\(dU).P r x:=IS.at h.CK rfl h.bO rfl ia hx
theorem fI(h:bG E){l}(ha:LS dU 46 Z v l):∃v',aR Z E.ty true v=some v'/\IS dU v' l:=Cl h.bO rfl ha
theorem Ir(h:bG E):eD E #[105,105]=true:=by
 show (match E.ty 105 with
  |some xi=>!A6 xi.kd
  |none=>false)=true
 rw[h.rM];rfl
theorem R9(h:bG E){l}(ia:IS Ei v l){i:Nat}{x}(hx:l[i]?=some x):∃g r,indexAddr E 105 v (.int .i64 (i:Int))=some (.cR g r)/\(Ei).P r x:=IS.at h.rM rfl h.Ex rfl ia hx
theorem QM(h:bG E){l}(ia:IS uX v l)(Z:Sg):lenOf E Z 68 v=some l.length:=lV h.Pe rfl (ia.ls Z 105)
theorem M0(h:bG E){l}(ia:IS uX v l){i:Nat}{x}(hx:l[i]?=some x):∃g r,indexAddr E 68 v (.int .i64 (i:Int))=some (.cR g r)/\(uX).P r x:=IS.at h.Pe rfl h.rM rfl ia hx
theorem vK(h:bG E){g:Bool}{u:V}{r:List V}:loadAt E Z 4 (.cR g (u::r))=some u:=by
 unfold loadAt;rw[h.Ex];rfl
theorem tI(h:bG E){g:Bool}{u:V}{r:List V}:loadAt E Z 9 (.cR g (u::r))=some u:=by
 unfold loadAt;rw[h.dJ];rfl
theorem Ms(h:bG E){g:Bool}{u:V}{r:List V}:loadAt E Z 24 (.cR g (u::r))=some u:=by
 unfold loadAt;rw[h.bB];rfl
theorem Vn(h:bG E){g:Bool}{v0 v1 v2 v3 v4:V}:loadAt E Z 46 (.cR g [v0,v1,v2,v3,v4])=some (.agg [v0,v1,v2,v3,v4]):=by
 unfold loadAt;rw[h.bO];rfl
theorem jX(h:bG E){g:Bool}{u:V}{r:List V}:loadAt E Z 105 (.cR g (u::r))=some u:=by
 unfold loadAt;rw[h.rM];rfl
theorem lZ:fY ⟨#[]⟩=[]:=rfl
theorem On:fY ⟨#[46]⟩=[46]:=rfl
theorem UG:fY ⟨#[46,46]⟩=[46,46]:=rfl
theorem D9:fY ⟨#[114,117,108,101]⟩=[114,117,108,101]:=rfl
theorem Ho:fY ⟨#[105,110]⟩=[105,110]:=rfl
theorem KV:fY ⟨#[111,117,116]⟩=[111,117,116]:=rfl
theorem RD:fY ⟨#[97,102,116,101,114]⟩=[97,102,116,101,114]:=rfl
theorem g_(h:bG E){l}(ia:IS aP v l){i:Nat}{x}(hx:l[i]?=some x):∃g,indexAddr E 24 v (.int .i64 (i:Int))=some (.cR g [.str x]):=by
 obtain⟨g,r,e,hr⟩:=U5 h ia hx;exact⟨g,by rw[e,show r=[.str x] from hr]⟩
theorem wT(h:bG E){l}(ia:IS fB v l){i:Nat}{x}(hx:l[i]?=some x):∃g a b,indexAddr E 44 v (.int .i64 (i:Int))=some (.cR g [.str x.out,.int .i64 x.op,a,b,.int .i64 x.n])/\IS aP a x.args/\IS aP b x.lits:=by
 obtain⟨g,r,e,a,b,hr,h1,h2⟩:=R6 h ia hx;exact⟨g,a,b,by rw[e,hr],h1,h2⟩
theorem fQ(h:bG E){l}(ia:IS dU v l){i:Nat}{x}(hx:l[i]?=some x):∃g a b c d,indexAddr E 22 v (.int .i64 (i:Int))=some (.cR g [.str x.name,a,b,c,d])/\IS aP a x.ins/\IS aP b x.outs/\IS aP c x.after/\IS fB d x.steps:=by
 obtain⟨g,r,e,a,b,c,d,hr,h1⟩:=R7 h ia hx;exact⟨g,a,b,c,d,by rw[e,hr],h1⟩
theorem dM(Z:Sg)(s:bF):aR Z E.ty true (.str s)=some (.str s):=rfl
theorem pR{α:Type}{L:Lay α}{l:List α}(ia:IS L v l)(Z:Sg):aR Z E.ty true v=some v:=bZ ia.bE (bJ ia.bE)
def JC(v:V)(x:aD):Prop:=∃a b c d,v=.agg [.str x.name,a,b,c,d]/\IS aP a x.ins/\IS aP b x.outs/\IS aP c x.after/\IS fB d x.steps
def OQ(v:V)(x:Step):Prop:=∃a b,v=.agg [.str x.out,.int .i64 x.op,a,b,.int .i64 x.n]/\IS aP a x.args/\IS aP b x.lits
theorem H6{cs:List V}(hc:∀c∈cs,Ax.bE c=true)(Z:Sg):aR Z E.ty true (.agg cs)=some (.agg cs):=by
 have e:aW (aR.one Z E.ty true) cs=some cs:=gH λc hx=>by
  have:=bZ (Z:=Z) (ty:=E.ty) (g:=true) (hc c hx) (bJ (hc c hx));have h2:=hc c hx;cases c <;> first | exact this | cases h2
 show (match aW (aR.one Z E.ty true) cs with
  |some l=>some (V.agg l)
  |none=>none)=_
 rw[e]
theorem JC.snap{x:aD}(h:JC v x)(Z:Sg):aR Z E.ty true v=some v:=by
 obtain⟨a,b,c,d,rfl,h1,h2,h3,h4⟩:=h;refine H6 (λy hy=>?_) Z;simp only[IN,bz,ek]at hy;rcases hy with rfl | rfl | rfl | rfl | rfl
 ·rfl
 ·exact h1.bE
 ·exact h2.bE
 ·exact h3.bE
 ·exact h4.bE
theorem OQ.snap{x:Step}(h:OQ v x)(Z:Sg):aR Z E.ty true v=some v:=by
 obtain⟨a,b,rfl,h1,h2⟩:=h;refine H6 (λy hy=>?_) Z;simp only[IN,bz,ek]at hy;rcases hy with rfl | rfl | rfl | rfl | rfl
 ·rfl
 ·rfl
 ·exact h1.bE
 ·exact h2.bE
 ·rfl
theorem iX{a b:bF}(e:a=b):Ax.seq a b=true:=by rw[zF];exact BY e
theorem gW{a b:bF}(e:a≠b):Ax.seq a b=false:=by rw[zF];exact AS e
theorem dR{i n:Nat}(h:i<n):decide ((i:Int)<(n:Int))=true:=BY (by omega)
theorem dW{i n:Nat}(h:¬ i<n):decide ((i:Int)<(n:Int))=false:=AS (by omega)
theorem bW(i:Nat)(h:i<9223372036854775807):wr .i64 ((i:Int)+1)=((i+1:Nat):Int):=by
 rw[Aw,az]
 ·exact(Int.natCast_succ i).symm
 ·have h1:lo .i64 = -9223372036854775808:=rfl;have h2:hi .i64=9223372036854775807:=rfl;rw[h1,h2,ak,af,af];omega
structure Small (x:aD):Prop where
 ins:x.ins.length<=10
 outs:x.outs.length<=6
 after:x.after.length<=10
 steps:x.steps.length<=14
 args:∀s∈x.steps,s.args.length<=8
 lits:∀s∈x.steps,s.lits.length<=3
structure Mid (x:aD):Prop where
 ins:x.ins.length<=10
 outs:x.outs.length<=6
 after:x.after.length<=10
 steps:x.steps.length<=14
 args:∀s∈x.steps,s.args.length<=8796093022208
 lits:∀s∈x.steps,s.lits.length<=8796093022208
theorem Small.mid{x:aD}(h:Small x):Mid x:=⟨h.ins,h.outs,h.after,h.steps,λs hs=>by have:=h.args s hs;omega,λs hs=>by have:=h.lits s hs;omega⟩
def idx:Option Nat->Int
 |some i=>i
 |none=>-1
theorem gD{α:Type}{p:α->Bool}:∀{l:List α},(∀x∈l,p x=false)->bR p l=none
 | [],_=>rfl
 |x::l,h=>by rw[bR,h x (No ..),gD λy hy=>h y (ae _ hy)];rfl
theorem gC{α:Type}{p:α->Bool}:∀{l:List α}{i:Nat}{x:α},(∀j y,j<i->l[j]?=some y->p y=false)->l[i]?=some x->p x=true->bR p l=some i
 | [],i,x,_,hx,_=>by cases hx
 |y::l,0,x,_,hx,hp=>by cases hx;rw[bR,az hp]
 |y::l,i+1,x,h,hx,hp=>by
  rw[bR,an (by rw[h 0 y (by omega) rfl];simp),gC (i:=i) (x:=x) (λj z hj hz=>h (j+1) z (by omega) hz) hx hp];rfl
theorem Bk{α:Type}{p:α->Bool}{l:List α}(h:∀j y,j<l.length->l[j]?=some y->p y=true):l.all p=true:=by
 rw[eu];intro x hx;obtain⟨i,hi,e⟩:=fm hx;exact h i x hi (by rw[AT hi,e])
theorem iL{α:Type}{p:α->Bool}{l:List α}{i:Nat}{x:α}(hx:l[i]?=some x)(hp:p x=false):l.all p=false:=by
 rw[List.all_eq_false];exact⟨x,ag hx,by simp[hp]⟩
end
section
variable {E:Env}{Z:Sg}{K:V->Sg->Prop}
theorem X5(h:bG E){a:V}{l:List bF}{s:bF}(ha:LS aP 9 Z a l)(hsm:l.length<=4294967296):aB E 100 [a,.str s] Z K=K (.int .i64 (idx (bR (λx=>decide (x=s)) l))) Z:=by
 refine aB.of ?_;obtain⟨a',ea,ia⟩:=kS h ha;rw[aH h.ab0 h.Zq h.acZ h.aaZ (args':=[a',.str s]) (by simp only[aW,ea,dM]),aU (by kernel_rfl)];simp only[aA,Tryz.f100,KP,↓reduceIte,ε,μ,φ];have la:=bT h ia;refine aV (λi F Y=>Y=[]/\F.get 0=a'/\F.get 1=.str s/\F.get 5=.int .i64 (i:Int)/\∀j y,j<i->l[j]?=some y->y≠s) l.length ?_ ?_ l.length 0 _ _ (by omega) ⟨rfl,(fK (by simp+decide only[GS,aj]) (λj y hj=>by omega))⟩
 ·rintro i F Y hi ⟨rfl,g0,g1,g5,hp⟩ next
  obtain⟨x,hx⟩:∃x,l[i]?=some x:=⟨_,AT hi⟩;obtain⟨g,e1⟩:=g_ h ia hx;have hlt:=dR hi;have hadd:=bW i (by omega);rw[aF];by_cases hxs:x=s
  ·have hs:=iX hxs;simp only[KP,ι,↓reduceIte,δ,ε,reduceCtorEq,φ,h.dJ,g0,g1,g5,la,hlt,e1,hs];rw[gC (i:=i) (x:=x) (λj y hj hy=>AS (hp j y hj hy)) hx (BY hxs)];exact rfl
  ·have hs:=gW hxs;simp only[KP,ι,↓reduceIte,δ,ε,reduceCtorEq,φ,h.dJ,g0,g1,g5,la,hlt,e1,hs,hadd];refine next _ _ ⟨rfl,(fK (by simp+decide only[GS,g0,g1,aj]) (λj y hj hy=>?_))⟩
   rcases cr j i with g | g
   ·exact hp j y g hy
   ·obtain rfl:j=i:=by omega
    rw[hx]at hy;cases hy;exact hxs
 ·rintro F Y ⟨rfl,g0,g1,g5,hp⟩;have hlt:=dW (bt l.length);rw[aF];simp only[KP,↓reduceIte,δ,ε,reduceCtorEq,φ,g0,g5,la,hlt]
  rw[gD λx hx=>by
   obtain⟨j,hj,e⟩:=fm hx;exact AS (hp j x hj (by rw[AT hj,e]))]
  exact rfl
theorem tJ(h:bG E){a:V}{l:List bF}{s:bF}(ha:LS aP 9 Z a l)(hsm:l.length<=4294967296):KC E 100 [a,.str s] Z ((.int .i64 (idx (bR (λx=>decide (x=s)) l)))) Z:=dX λ_=>X5 h ha hsm
theorem b_At(h:bG E){a:V}{l:List aD}{s:bF}(ha:LS dU 46 Z a l)(hsm:l.length<=4294967296):aB E 56 [a,.str s] Z K=K (.int .i64 (idx (gL l s))) Z:=by
 refine aB.of ?_;obtain⟨a',ea,ia⟩:=fI h ha;rw[aH h.hs56 h.sp56 h.fn56 h.md56 (args':=[a',.str s]) (by simp only[aW,ea,dM]),aU (by kernel_rfl)];simp only[aA,Tryz.f56,KP,↓reduceIte,ε,μ,φ];have la:=dH h ia;refine aV (λi F Y=>Y=[]/\F.get 0=a'/\F.get 1=.str s/\F.get 5=.int .i64 (i:Int)/\∀j y,j<i->l[j]?=some y->y.name≠s) l.length ?_ ?_ l.length 0 _ _ (by omega) ⟨rfl,(fK (by simp+decide only[GS,aj]) (λj y hj=>by omega))⟩
 ·rintro i F Y hi ⟨rfl,g0,g1,g5,hp⟩ next
  obtain⟨x,hx⟩:∃x,l[i]?=some x:=⟨_,AT hi⟩;obtain⟨g,a1,a2,a3,a4,e1,-⟩:=fQ h ia hx;have hlt:=dR hi;have hadd:=bW i (by omega);rw[aF];by_cases hxs:x.name=s
  ·have hs:=iX hxs;simp only[KP,ι,↓reduceIte,δ,ε,reduceCtorEq,φ,h.dJ,h.bO,g0,g1,g5,la,hlt,e1,hs];rw[show gL l s=some i from gC (i:=i) (x:=x) (λj y hj hy=>AS (hp j y hj hy)) hx (BY hxs)];exact rfl
  ·have hs:=gW hxs;simp only[KP,ι,↓reduceIte,δ,ε,reduceCtorEq,φ,h.dJ,h.bO,g0,g1,g5,la,hlt,e1,hs,hadd];refine next _ _ ⟨rfl,(fK (by simp+decide only[GS,g0,g1,aj]) (λj y hj hy=>?_))⟩
   rcases cr j i with g | g
   ·exact hp j y g hy
   ·obtain rfl:j=i:=by omega
    rw[hx]at hy;cases hy;exact hxs
 ·rintro F Y ⟨rfl,g0,g1,g5,hp⟩;have hlt:=dW (bt l.length);rw[aF];simp only[KP,↓reduceIte,δ,ε,reduceCtorEq,φ,g0,g5,la,hlt]
  rw[show gL l s=none from gD λx hx=>by
   obtain⟨j,hj,e⟩:=fm hx;exact AS (hp j x hj (by rw[AT hj,e]))]
  exact rfl
theorem Xk(h:bG E){a:V}{l:List aD}{s:bF}(ha:LS dU 46 Z a l)(hsm:l.length<=4294967296):KC E 56 [a,.str s] Z ((.int .i64 (idx (gL l s)))) Z:=dX λ_=>b_At h ha hsm
theorem lW{o:Option Nat}:decide ((0:Int)<=idx o)=o.isSome:=by
 cases o with
 |none=>rfl
 |some i=>exact BY (by simp only[idx];omega)
theorem DL{o:Option Nat}:decide (idx o<(0:Int))=o.isNone:=by
 cases o with
 |none=>rfl
 |some i=>exact AS (by simp only[idx];omega)
theorem cO{α:Type}{p:α->Bool}:∀{l:List α},(bR p l).isSome=l.any p
 | []=>rfl
 |x::l=>by
  rw[bR,List.any_cons];by_cases hx:p x=true
  ·rw[az hx,hx];rfl
  ·rw[an hx,Option.isSome_map,cO];simp[hx]
theorem any_eq{l:List bF}{s:bF}:(l.any λx=>decide (x=s))=decide (s∈l):=by
 rw[ec,fh,af];constructor
 ·rintro⟨x,hx,e⟩;rw[af]at e;subst e;exact hx
 ·intro hx;exact⟨s,hx,by simp⟩
theorem UY(h:bG E){a:V}{l:List aD}{s:bF}(ha:LS dU 46 Z a l)(ho:∀x∈l,x.outs.length<=4294967296)(hsm:l.length<=4294967296):aB E 54 [a,.str s] Z K=K (.int .i64 (idx (fO l s))) Z:=by
 refine aB.of ?_;obtain⟨a',ea,ia⟩:=fI h ha;rw[aH h.hs54 h.sp54 h.fn54 h.md54 (args':=[a',.str s]) (by simp only[aW,ea,dM]),aU (by kernel_rfl)];simp only[aA,Tryz.f54,KP,↓reduceIte,ε,μ,φ];have la:=dH h ia;refine aV (λi F Y=>Y=[]/\F.get 0=a'/\F.get 1=.str s/\F.get 5=.int .i64 (i:Int)/\∀j y,j<i->l[j]?=some y->s ∉ y.outs) l.length ?_ ?_ l.length 0 _ _ (by omega) ⟨rfl,(fK (by simp+decide only[GS,aj]) (λj y hj=>by omega))⟩
 ·rintro i F Y hi ⟨rfl,g0,g1,g5,hp⟩ next
  obtain⟨x,hx⟩:∃x,l[i]?=some x:=⟨_,AT hi⟩;obtain⟨g,a1,a2,a3,a4,e1,-,h2,-⟩:=fQ h ia hx;have kf:=λ(Y:Sg)=>tJ (Z:=Y) h (s:=s) (h2.ls Y 9) (ho x (ag hx));have hlt:=dR hi;have hadd:=bW i (by omega);rw[aF];by_cases hxs:s∈x.outs
  ·have hs:(bR (λy=>decide (y=s)) x.outs).isSome=true:=by rw[cO,any_eq];exact BY hxs
   simp only[KP,ι,↓reduceIte,δ,ε,reduceCtorEq,φ,h.bB,h.bO,g0,g1,g5,la,hlt,e1,kf,lW,hs];rw[show fO l s=some i from gC (i:=i) (x:=x) (λj y hj hy=>AS (hp j y hj hy)) hx (BY hxs)];exact rfl
  ·have hs:(bR (λy=>decide (y=s)) x.outs).isSome=false:=by rw[cO,any_eq];exact AS hxs
   simp only[KP,ι,↓reduceIte,δ,ε,reduceCtorEq,φ,h.bB,h.bO,g0,g1,g5,la,hlt,e1,kf,lW,hs,hadd];refine next _ _ ⟨rfl,(fK (by simp+decide only[GS,g0,g1,aj]) (λj y hj hy=>?_))⟩
   rcases cr j i with g | g
   ·exact hp j y g hy
   ·obtain rfl:j=i:=by omega
    rw[hx]at hy;cases hy;exact hxs
 ·rintro F Y ⟨rfl,g0,g1,g5,hp⟩;have hlt:=dW (bt l.length);rw[aF];simp only[KP,↓reduceIte,δ,ε,reduceCtorEq,φ,g0,g5,la,hlt]
  rw[show fO l s=none from gD λx hx=>by
   obtain⟨j,hj,e⟩:=fm hx;exact AS (hp j x hj (by rw[AT hj,e]))]
  exact rfl
theorem Mz(h:bG E){a:V}{l:List aD}{s:bF}(ha:LS dU 46 Z a l)(ho:∀x∈l,x.outs.length<=4294967296)(hsm:l.length<=4294967296):KC E 54 [a,.str s] Z ((.int .i64 (idx (fO l s)))) Z:=dX λ_=>UY h ha ho hsm
theorem XW(h:bG E){c:Nat}:aB E 197 [.int .u8 (c:Int)] Z K=K (.bool (sign c)) Z:=by
 refine aB.of ?_;rw[aH h.abt h.YU h.acr h.aau (args':=[.int .u8 (c:Int)]) (by simp only[aW,show aR Z E.ty true (.int .u8 (c:Int))=some (.int .u8 (c:Int)) from rfl]),aU (by kernel_rfl)];have hcut:(0<=c/\c<=44)\/(45<=c/\c<=45)\/(46<=c/\c<=46)\/(47<=c/\c<=47)\/(48<=c/\c<=57)\/(58<=c/\c<=64)\/(65<=c/\c<=90)\/(91<=c/\c<=94)\/(95<=c/\c<=95)\/(96<=c/\c<=96)\/(97<=c/\c<=122)\/(123<=c/\123<=c):=by omega
 rcases hcut with⟨h1,h2⟩ | ⟨h1,h2⟩ | ⟨h1,h2⟩ | ⟨h1,h2⟩ | ⟨h1,h2⟩ | ⟨h1,h2⟩ | ⟨h1,h2⟩ | ⟨h1,h2⟩ | ⟨h1,h2⟩ | ⟨h1,h2⟩ | ⟨h1,h2⟩ | ⟨h1,h2⟩
 ·rw[show sign c=false from by unfold sign;simp;omega];have q0:decide ((97:Int)<=(c:Int))=false:=AS (by omega);have q2:decide ((65:Int)<=(c:Int))=false:=AS (by omega);have q4:decide ((48:Int)<=(c:Int))=false:=AS (by omega);have q6:decide ((c:Int)=46)=false:=AS (by omega);have q7:decide ((c:Int)=95)=false:=AS (by omega);have q8:decide ((c:Int)=45)=false:=AS (by omega);simp only[aA,ky,KP,↓reduceIte,δ,ε,reduceCtorEq,q0,q2,q4,q6,q7,q8];exact rfl
 ·rw[show sign c=true from by unfold sign;simp;omega];have q0:decide ((97:Int)<=(c:Int))=false:=AS (by omega);have q2:decide ((65:Int)<=(c:Int))=false:=AS (by omega);have q4:decide ((48:Int)<=(c:Int))=false:=AS (by omega);have q6:decide ((c:Int)=46)=false:=AS (by omega);have q7:decide ((c:Int)=95)=false:=AS (by omega);have q8:decide ((c:Int)=45)=true:=BY (by omega);simp only[aA,ky,KP,↓reduceIte,δ,ε,reduceCtorEq,q0,q2,q4,q6,q7,q8];exact rfl
 ·rw[show sign c=true from by unfold sign;simp;omega];have q0:decide ((97:Int)<=(c:Int))=false:=AS (by omega);have q2:decide ((65:Int)<=(c:Int))=false:=AS (by omega);have q4:decide ((48:Int)<=(c:Int))=false:=AS (by omega);have q6:decide ((c:Int)=46)=true:=BY (by omega);simp only[aA,ky,KP,↓reduceIte,δ,ε,reduceCtorEq,q0,q2,q4,q6];exact rfl
 ·rw[show sign c=false from by unfold sign;simp;omega];have q0:decide ((97:Int)<=(c:Int))=false:=AS (by omega);have q2:decide ((65:Int)<=(c:Int))=false:=AS (by omega);have q4:decide ((48:Int)<=(c:Int))=false:=AS (by omega);have q6:decide ((c:Int)=46)=false:=AS (by omega);have q7:decide ((c:Int)=95)=false:=AS (by omega);have q8:decide ((c:Int)=45)=false:=AS (by omega);simp only[aA,ky,KP,↓reduceIte,δ,ε,reduceCtorEq,q0,q2,q4,q6,q7,q8];exact rfl
 ·rw[show sign c=true from by unfold sign;simp;omega];have q0:decide ((97:Int)<=(c:Int))=false:=AS (by omega);have q2:decide ((65:Int)<=(c:Int))=false:=AS (by omega);have q4:decide ((48:Int)<=(c:Int))=true:=BY (by omega);have q5:decide ((c:Int)<=57)=true:=BY (by omega);simp only[aA,ky,KP,↓reduceIte,δ,ε,reduceCtorEq,q0,q2,q4,q5];exact rfl
 ·rw[show sign c=false from by unfold sign;simp;omega];have q0:decide ((97:Int)<=(c:Int))=false:=AS (by omega);have q2:decide ((65:Int)<=(c:Int))=false:=AS (by omega);have q4:decide ((48:Int)<=(c:Int))=true:=BY (by omega);have q5:decide ((c:Int)<=57)=false:=AS (by omega);have q6:decide ((c:Int)=46)=false:=AS (by omega);have q7:decide ((c:Int)=95)=false:=AS (by omega);have q8:decide ((c:Int)=45)=false:=AS (by omega);simp only[aA,ky,KP,↓reduceIte,δ,ε,reduceCtorEq,q0,q2,q4,q5,q6,q7,q8];exact rfl
 ·rw[show sign c=true from by unfold sign;simp;omega];have q0:decide ((97:Int)<=(c:Int))=false:=AS (by omega);have q2:decide ((65:Int)<=(c:Int))=true:=BY (by omega);have q3:decide ((c:Int)<=90)=true:=BY (by omega);simp only[aA,ky,KP,↓reduceIte,δ,ε,reduceCtorEq,q0,q2,q3];exact rfl
 ·rw[show sign c=false from by unfold sign;simp;omega];have q0:decide ((97:Int)<=(c:Int))=false:=AS (by omega);have q2:decide ((65:Int)<=(c:Int))=true:=BY (by omega);have q3:decide ((c:Int)<=90)=false:=AS (by omega);have q4:decide ((48:Int)<=(c:Int))=true:=BY (by omega);have q5:decide ((c:Int)<=57)=false:=AS (by omega);have q6:decide ((c:Int)=46)=false:=AS (by omega);have q7:decide ((c:Int)=95)=false:=AS (by omega);have q8:decide ((c:Int)=45)=false:=AS (by omega);simp only[aA,ky,KP,↓reduceIte,δ,ε,reduceCtorEq,q0,q2,q3,q4,q5,q6,q7,q8];exact rfl
 ·rw[show sign c=true from by unfold sign;simp;omega];have q0:decide ((97:Int)<=(c:Int))=false:=AS (by omega);have q2:decide ((65:Int)<=(c:Int))=true:=BY (by omega);have q3:decide ((c:Int)<=90)=false:=AS (by omega);have q4:decide ((48:Int)<=(c:Int))=true:=BY (by omega);have q5:decide ((c:Int)<=57)=false:=AS (by omega);have q6:decide ((c:Int)=46)=false:=AS (by omega);have q7:decide ((c:Int)=95)=true:=BY (by omega);simp only[aA,ky,KP,↓reduceIte,δ,ε,reduceCtorEq,q0,q2,q3,q4,q5,q6,q7];exact rfl
 ·rw[show sign c=false from by unfold sign;simp;omega];have q0:decide ((97:Int)<=(c:Int))=false:=AS (by omega);have q2:decide ((65:Int)<=(c:Int))=true:=BY (by omega);have q3:decide ((c:Int)<=90)=false:=AS (by omega);have q4:decide ((48:Int)<=(c:Int))=true:=BY (by omega);have q5:decide ((c:Int)<=57)=false:=AS (by omega);have q6:decide ((c:Int)=46)=false:=AS (by omega);have q7:decide ((c:Int)=95)=false:=AS (by omega);have q8:decide ((c:Int)=45)=false:=AS (by omega);simp only[aA,ky,KP,↓reduceIte,δ,ε,reduceCtorEq,q0,q2,q3,q4,q5,q6,q7,q8];exact rfl
 ·rw[show sign c=true from by unfold sign;simp;omega];have q0:decide ((97:Int)<=(c:Int))=true:=BY (by omega);have q1:decide ((c:Int)<=122)=true:=BY (by omega);simp only[aA,ky,KP,↓reduceIte,δ,ε,reduceCtorEq,q0,q1];exact rfl
 ·rw[show sign c=false from by unfold sign;simp;omega];have q0:decide ((97:Int)<=(c:Int))=true:=BY (by omega);have q1:decide ((c:Int)<=122)=false:=AS (by omega);have q2:decide ((65:Int)<=(c:Int))=true:=BY (by omega);have q3:decide ((c:Int)<=90)=false:=AS (by omega);have q4:decide ((48:Int)<=(c:Int))=true:=BY (by omega);have q5:decide ((c:Int)<=57)=false:=AS (by omega);have q6:decide ((c:Int)=46)=false:=AS (by omega);have q7:decide ((c:Int)=95)=false:=AS (by omega);have q8:decide ((c:Int)=45)=false:=AS (by omega);simp only[aA,ky,KP,↓reduceIte,δ,ε,reduceCtorEq,q0,q1,q2,q3,q4,q5,q6,q7,q8];exact rfl
theorem Xi(h:bG E){c:Nat}:KC E 197 [.int .u8 (c:Int)] Z (.bool (sign c)) Z:=dX λ_=>XW h
theorem xV(h:bG E){v:V}{l:List bF}(ia:IS aP v l){b:Nat}(hb:b<=l.length):∃w,(∀Z,Ax.slice E Z 24 v none (some (.int .i64 (b:Int))) none=some w)/\IS aP w (l.take b):=by
 obtain⟨w,h1,h2,-⟩:=C3 (lo:=none) (hi:=some (.int .i64 (b:Int))) (a:=0) (b:=b) h.bB rfl h.dJ rfl ia (.inr rfl) (.inl ⟨rfl,rfl⟩) (gv _) hb;exact⟨w,h1,by simpa using h2⟩
theorem CM:∀{l:List bF}{i:Nat}{x:bF},l[i]?=some x->x∈l.take i->lH l=true
 | [],i,x,hx,_=>by cases hx
 |y::l,0,x,_,h=>by simp at h
 |y::l,i+1,x,hx,h=>by
  have hx':l[i]?=some x:=hx;rw[oo,IN]at h;rw[lH];rcases h with h | h
  ·rw[BY (h ▸ ag hx')];rfl
  ·rw[CM hx' h];simp
theorem Az:∀{l:List bF},(∀(i:Nat)(x:bF),l[i]?=some x->x ∉ l.take i)->lH l=false
 | [],_=>rfl
 |y::l,h=>by
  rw[lH,Az λi x hx hm=>h (i+1) x hx (by rw[oo];exact ae _ hm)];rw[qz];refine AS λhy=>?_;obtain⟨i,hi,e⟩:=fm hy;exact h (i+1) y (by rw[cm,AT hi,e]) (by rw[oo];exact No ..)
theorem UL(h:bG E){a:V}{l:List bF}(ha:LS aP 9 Z a l)(hsm:l.length<=4294967296):aB E 138 [a] Z K=K (.bool (lH l)) Z:=by
 refine aB.of ?_;obtain⟨a',ea,ia⟩:=kS h ha;rw[aH h.abI h.Y9 h.acG h.aaH (args':=[a']) (by simp only[aW,ea]),aU (by kernel_rfl)];simp only[aA,Tryz.f138,KP,↓reduceIte,ε];have la:=bT h ia;have d4:=h.XH;simp only[aA,Tryz.f138,cutAt,ay]at d4;refine aV (λi F Y=>Y=[]/\F.get 0=a'/\F.get 3=.int .i64 (i:Int)/\∀j y,j<i->l[j]?=some y->y ∉ l.take j) l.length ?_ ?_ l.length 0 _ _ (by omega) ⟨rfl,(mJ (by simp+decide only[GS,aj]) (λj y hj=>by omega))⟩
 ·rintro i F Y hi ⟨rfl,g0,g3,hp⟩ next
  obtain⟨x,hx⟩:∃x,l[i]?=some x:=⟨_,AT hi⟩;obtain⟨g,e1⟩:=g_ h ia hx;obtain⟨w,e2,iw⟩:=xV h ia (Nat.le_of_lt hi);have hlt:=dR hi;have hadd:=bW i (by omega);have kf:=λ(Y:Sg)=>tJ (Z:=Y) h (s:=x) (iw.ls Y 9) (by rw[bl];omega);rw[aF];by_cases hm:x∈l.take i
  ·have hs:(bR (λy=>decide (y=x)) (l.take i)).isSome=true:=by rw[cO,any_eq];exact BY hm
   simp only[KP,ι,↓reduceIte,δ,ε,reduceCtorEq,h.dJ,g0,g3,la,hlt,aX d4,bS,e1,e2,kf,lW,hs];rw[CM hx hm];exact rfl
  ·have hs:(bR (λy=>decide (y=x)) (l.take i)).isSome=false:=by rw[cO,any_eq];exact AS hm
   simp only[KP,ι,↓reduceIte,δ,ε,reduceCtorEq,h.dJ,g0,g3,la,hlt,aX d4,bS,e1,e2,kf,lW,hs,hadd];refine next _ _ ⟨rfl,(mJ (by simp+decide only[GS,g0,aj]) (λj y hj hy=>?_))⟩
   rcases cr j i with g | g
   ·exact hp j y g hy
   ·obtain rfl:j=i:=by omega
    rw[hx]at hy;cases hy;exact hm
 ·rintro F Y ⟨rfl,g0,g3,hp⟩;have hlt:=dW (bt l.length);rw[aF];simp only[KP,↓reduceIte,δ,ε,reduceCtorEq,g0,g3,la,hlt];rw[Az λi x hx=>hp i x (AI.1 hx).1 hx];exact rfl
theorem G6(h:bG E){a:V}{l:List bF}(ha:LS aP 9 Z a l)(hsm:l.length<=4294967296):KC E 138 [a] Z (.bool (lH l)) Z:=dX λ_=>UL h ha hsm
theorem min2(k:IntKind)(a b:Int):iN false k a [.int k b]=some (if b<a then b else a):=rfl
def lN(x:Step)(A B:Int):Bool:=decide ((x.args.length:Int)=A)&&(decide ((x.lits.length:Int)=B)&&((!decide (x.op=8)||decide (x.lits.head?≠some []))&&(decide (0<=x.n)&&(decide (x.n<=2000)&&(decide (x.op=9)||decide (x.n=0))))))
theorem WQ(h:bG E){x:Step}{a b:V}(ia:IS aP a x.args)(ib:IS aP b x.lits){A B:Int}(h8:x.op=8->(x.lits.length:Int)=B->x.lits≠[])(F:FT)(g1:F.get 1=.ref 0 0)(g3:F.get 3=.int .i64 A)(g4:F.get 4=.int .i64 B)(hk:K (.bool (lN x A B)) [.cells 82 [.str x.out,.int .i64 x.op,a,b,.int .i64 x.n] true]) :
  R E (cutAt [1,1,1,1] (aA ao).code) [] ⟨85,F⟩ [.cells 82 [.str x.out,.int .i64 x.op,a,b,.int .i64 x.n] true] (nV E (aA ao).results K):=by
 have la:=bT h ia;have lb:=bT h ib;unfold lN at hk;by_cases p1:(x.args.length:Int)=A
 case neg=>
  have q1:decide ((x.args.length:Int)=A)=false:=AS p1;rw[q1]at hk;simp only[aA,ao,KP,ι,↓reduceIte,δ,ε,reduceCtorEq,h.bB,h.dF,cutAt,g1,g3,la,q1];exact hk
 have q1:decide ((x.args.length:Int)=A)=true:=BY p1;by_cases p2:(x.lits.length:Int)=B
 case neg=>
  have q2:decide ((x.lits.length:Int)=B)=false:=AS p2;rw[q1,q2]at hk;simp only[aA,ao,KP,ι,↓reduceIte,δ,ε,reduceCtorEq,h.bB,h.dF,cutAt,g1,g3,g4,la,lb,q1,q2];exact hk
 have q2:decide ((x.lits.length:Int)=B)=true:=BY p2
 have rest:∀(q3:(!decide (x.op=8)||decide (x.lits.head?≠some []))=true) (e:x.op=8->∃g y,indexAddr E 24 b (.int .i64 0)=some (.cR g [.str y])/\Ax.seq y []=false),R E (cutAt [1,1,1,1] (aA ao).code) [] ⟨85,F⟩ [.cells 82 [.str x.out,.int .i64 x.op,a,b,.int .i64 x.n] true] (nV E (aA ao).results K):=by
  intro q3 e;rw[q1,q2,q3]at hk
  have tail:∀(c8:Bool),decide (x.op=8)=c8->(c8=true->∃g y,indexAddr E 24 b (.int .i64 0)=some (.cR g [.str y])/\Ax.seq y []=false)->R E (cutAt [1,1,1,1] (aA ao).code) [] ⟨85,F⟩ [.cells 82 [.str x.out,.int .i64 x.op,a,b,.int .i64 x.n] true] (nV E (aA ao).results K):=by
   intro c8 hc8 e;by_cases p4:0<=x.n
   case neg=>
    have q4:decide (0<=x.n)=false:=AS p4;rw[q4]at hk;cases c8 with
    |false=>
     simp only[aA,ao,KP,ι,↓reduceIte,δ,ε,reduceCtorEq,h.mP,h.bB,h.dF,cutAt,g1,g3,g4,la,lb,q1,q2,hc8,q4];exact hk
    |true=>
     obtain⟨g,y,e1,e2⟩:=e rfl;simp only[aA,ao,KP,ι,↓reduceIte,δ,ε,reduceCtorEq,h.mP,h.dJ,h.bB,h.dF,lZ,cutAt,g1,g3,g4,la,lb,q1,q2,hc8,q4,e1,e2];exact hk
   have q4:decide (0<=x.n)=true:=BY p4;by_cases p5:x.n<=2000
   case neg=>
    have q5:decide (x.n<=2000)=false:=AS p5;rw[q4,q5]at hk;cases c8 with
    |false=>
     simp only[aA,ao,KP,ι,↓reduceIte,δ,ε,reduceCtorEq,h.mP,h.bB,h.dF,cutAt,g1,g3,g4,la,lb,q1,q2,hc8,q4,q5];exact hk
    |true=>
     obtain⟨g,y,e1,e2⟩:=e rfl;simp only[aA,ao,KP,ι,↓reduceIte,δ,ε,reduceCtorEq,h.mP,h.dJ,h.bB,h.dF,lZ,cutAt,g1,g3,g4,la,lb,q1,q2,hc8,q4,q5,e1,e2];exact hk
   have q5:decide (x.n<=2000)=true:=BY p5;rw[q4,q5]at hk;by_cases p9:x.op=9
   ·have q9:decide (x.op=9)=true:=BY p9;have q8:decide (x.op=8)=false:=AS (by omega);rw[q9]at hk;simp only[aA,ao,KP,ι,↓reduceIte,δ,ε,reduceCtorEq,h.mP,h.bB,h.dF,cutAt,g1,g3,g4,la,lb,q1,q2,q8,q4,q5,q9];exact hk
   ·have q9:decide (x.op=9)=false:=AS p9;by_cases p0:x.n=0
    ·have q0:decide (x.n=0)=true:=BY p0;rw[q9,q0]at hk;cases c8 with
     |false=>
      simp only[aA,ao,KP,ι,↓reduceIte,δ,ε,reduceCtorEq,h.mP,h.bB,h.dF,cutAt,g1,g3,g4,la,lb,q1,q2,hc8,q4,q5,q9,q0];exact hk
     |true=>
      obtain⟨g,y,e1,e2⟩:=e rfl;simp only[aA,ao,KP,ι,↓reduceIte,δ,ε,reduceCtorEq,h.mP,h.dJ,h.bB,h.dF,lZ,cutAt,g1,g3,g4,la,lb,q1,q2,hc8,q4,q5,q9,q0,e1,e2];exact hk
    ·have q0:decide (x.n=0)=false:=AS p0;rw[q9,q0]at hk;cases c8 with
     |false=>
      simp only[aA,ao,KP,ι,↓reduceIte,δ,ε,reduceCtorEq,h.mP,h.bB,h.dF,cutAt,g1,g3,g4,la,lb,q1,q2,hc8,q4,q5,q9,q0];exact hk
     |true=>
      obtain⟨g,y,e1,e2⟩:=e rfl;simp only[aA,ao,KP,ι,↓reduceIte,δ,ε,reduceCtorEq,h.mP,h.dJ,h.bB,h.dF,lZ,cutAt,g1,g3,g4,la,lb,q1,q2,hc8,q4,q5,q9,q0,e1,e2];exact hk
  exact tail _ rfl λhc=>e (er hc)
 by_cases p8:x.op=8
 ·have hne:=h8 p8 p2;obtain⟨y,r,hyr⟩:=o5 hne;obtain⟨g,e1⟩:=g_ h ib (i:=0) (x:=y) (by rw[hyr];rfl);by_cases hy:y=[]
  ·have e2:=iX hy;have q8:decide (x.op=8)=true:=BY p8;have q3:decide (x.lits.head?≠some [])=false:=AS (by rw[hyr,hy];simp);rw[q1,q2,q8,q3]at hk;have e1:indexAddr E 24 b (.int .i64 0)=some (.cR g [.str y]):=e1;simp only[aA,ao,KP,ι,↓reduceIte,δ,ε,reduceCtorEq,h.mP,h.dJ,h.bB,h.dF,lZ,cutAt,g1,g3,g4,la,lb,q1,q2,q8,e1,e2];exact hk
  ·refine rest ?_ λ_=>⟨g,y,e1,gW hy⟩;rw[show decide (x.lits.head?≠some [])=true from BY (by rw[hyr];simpa using hy),Bool.or_true]
 ·exact rest (by rw[show decide (x.op=8)=false from AS p8];rfl) λe=>absurd e p8
theorem Tm(h:bG E){x:Step}{a b:V}(ia:IS aP a x.args)(ib:IS aP b x.lits)(hsm:x.lits.length<=4294967296){A B:Int}(h8:x.op=8->(x.lits.length:Int)=B->x.lits≠[])(F:FT)(g1:F.get 1=.ref 0 0)(g3:F.get 3=.int .i64 A)(g4:F.get 4=.int .i64 B)(g5:F.get 5=.int .i64 0)
  (hk:K (.bool (x.lits.all (λl=>decide (l.length<=100))&&lN x A B)) [.cells 82 [.str x.out,.int .i64 x.op,a,b,.int .i64 x.n] true]) :
  R E (.loop (cutAt [1,1,1,0,1,2,2] (aA ao).code)) [.blk 1,.k (cutAt [1,1,1,1] (aA ao).code)] ⟨85,F⟩ [.cells 82 [.str x.out,.int .i64 x.op,a,b,.int .i64 x.n] true] (nV E (aA ao).results K):=by
 have lb:=bT h ib;have key:=λF g1 g3 g4 hk=>WQ (K:=K) (A:=A) (B:=B) h ia ib h8 F g1 g3 g4 hk;generalize cutAt [1,1,1,1] (aA ao).code=C at key ⊢;refine aV (λi F Y=>Y=[.cells 82 [.str x.out,.int .i64 x.op,a,b,.int .i64 x.n] true]/\F.get 1=.ref 0 0/\F.get 3=.int .i64 A/\F.get 4=.int .i64 B/\F.get 5=.int .i64 (i:Int)/\∀j y,j<i->x.lits[j]?=some y->y.length<=100) x.lits.length ?_ ?_ x.lits.length 0 _ _ (by omega) ⟨rfl,g1,g3,g4,g5,λj y hj=>by omega⟩
 ·rintro i F Y hi ⟨rfl,g1,g3,g4,g5,hp⟩ next
  obtain⟨y,hy⟩:∃y,x.lits[i]?=some y:=⟨_,AT hi⟩;obtain⟨g,e1⟩:=g_ h ib hy;have hlt:=dR hi;have hadd:=bW i (by omega);rw[aF];by_cases hl:y.length<=100
  ·have q:decide ((100:Int)<(y.length:Int))=false:=AS (by omega);simp only[aA,ao,KP,ι,↓reduceIte,δ,ε,reduceCtorEq,h.dJ,h.bB,h.dF,gB h,cutAt,g1,g5,lb,hlt,e1,q,hadd];refine next _ _ ⟨rfl,(fZ (by simp+decide only[GS,g1,g3,g4,aj]) (λj z hj hz=>?_))⟩
   rcases cr j i with g | g
   ·exact hp j z g hz
   ·obtain rfl:j=i:=by omega
    rw[hy]at hz;cases hz;exact hl
  ·have q:decide ((100:Int)<(y.length:Int))=true:=BY (by omega);simp only[aA,ao,KP,ι,↓reduceIte,δ,ε,reduceCtorEq,h.dJ,h.bB,h.dF,gB h,cutAt,g1,g5,lb,hlt,e1,q];rw[iL hy (AS hl),l8]at hk;exact hk
 ·rintro F Y ⟨rfl,g1,g3,g4,g5,hp⟩;have hlt:=dW (bt x.lits.length);rw[aF];rw[Bk λj y _ hy=>BY (hp j y (AI.1 hy).1 hy),jd]at hk;simp only[aA,ao,KP,ι,↓reduceIte,δ,ε,reduceCtorEq,h.bB,h.dF,cutAt,g1,g5,lb,hlt];exact key _ (by simp+decide only[GS,g1]) (by simp+decide only[GS,g3]) (by simp+decide only[GS,g4]) hk
theorem Tw{n:Nat}:decide ((n:Int)=(if (6:Int)<(n:Int) then 6 else (n:Int)))=decide (n<=6):=by
 by_cases g:(6:Int)<(n:Int)
 ·rw[az g,AS (by omega),AS (by omega)]
 ·rw[an g,BY rfl,BY (by omega)]
theorem end_1{x:Step}(e:x.op=1):(x.lits.all (λl=>decide (l.length<=100))&&lN x 1 0)=cM x:=by
 unfold lN cM counts;rw[e]
 skip
 generalize x.lits.all (λl=>decide (l.length<=100))=L;generalize x.args.length=n;generalize x.lits.length=m;generalize x.lits.head?=hd;generalize x.n=c;rw[ec];by_cases hh:hd=some []
 ·cases L <;> simp[hh] <;> omega
 ·cases L <;> simp[hh] <;> omega
theorem ade{x:Step}(e:x.op=2):(x.lits.all (λl=>decide (l.length<=100))&&lN x 1 0)=cM x:=by
 unfold lN cM counts;rw[e]
 skip
 generalize x.lits.all (λl=>decide (l.length<=100))=L;generalize x.args.length=n;generalize x.lits.length=m;generalize x.lits.head?=hd;generalize x.n=c;rw[ec];by_cases hh:hd=some []
 ·cases L <;> simp[hh] <;> omega
 ·cases L <;> simp[hh] <;> omega
theorem adb{x:Step}(e:x.op=3):(x.lits.all (λl=>decide (l.length<=100))&&lN x 1 0)=cM x:=by
 unfold lN cM counts;rw[e]
 skip
 generalize x.lits.all (λl=>decide (l.length<=100))=L;generalize x.args.length=n;generalize x.lits.length=m;generalize x.lits.head?=hd;generalize x.n=c;rw[ec];by_cases hh:hd=some []
 ·cases L <;> simp[hh] <;> omega
 ·cases L <;> simp[hh] <;> omega
theorem ada{x:Step}(e:x.op=4):(x.lits.all (λl=>decide (l.length<=100))&&lN x 1 0)=cM x:=by
 unfold lN cM counts;rw[e]
 skip
 generalize x.lits.all (λl=>decide (l.length<=100))=L;generalize x.args.length=n;generalize x.lits.length=m;generalize x.lits.head?=hd;generalize x.n=c;rw[ec];by_cases hh:hd=some []
 ·cases L <;> simp[hh] <;> omega
 ·cases L <;> simp[hh] <;> omega
theorem ac5{x:Step}(e:x.op=9):(x.lits.all (λl=>decide (l.length<=100))&&lN x 1 0)=cM x:=by
 unfold lN cM counts;rw[e]
 skip
 generalize x.lits.all (λl=>decide (l.length<=100))=L;generalize x.args.length=n;generalize x.lits.length=m;generalize x.lits.head?=hd;generalize x.n=c;rw[ec];by_cases hh:hd=some []
 ·cases L <;> simp[hh] <;> omega
 ·cases L <;> simp[hh] <;> omega
theorem ac9{x:Step}(e:x.op=5):(x.lits.all (λl=>decide (l.length<=100))&&lN x (if (6:Int)<(x.args.length:Int) then 6 else (x.args.length:Int)) 0)=cM x:=by
 unfold lN cM counts;rw[e];rw[Tw];generalize x.lits.all (λl=>decide (l.length<=100))=L;generalize x.args.length=n;generalize x.lits.length=m;generalize x.lits.head?=hd;generalize x.n=c;rw[ec];by_cases hh:hd=some []
 ·cases L <;> simp[hh] <;> omega
 ·cases L <;> simp[hh] <;> omega
theorem ac8{x:Step}(e:x.op=6):(x.lits.all (λl=>decide (l.length<=100))&&lN x 0 1)=cM x:=by
 unfold lN cM counts;rw[e]
 skip
 generalize x.lits.all (λl=>decide (l.length<=100))=L;generalize x.args.length=n;generalize x.lits.length=m;generalize x.lits.head?=hd;generalize x.n=c;rw[ec];by_cases hh:hd=some []
 ·cases L <;> simp[hh] <;> omega
 ·cases L <;> simp[hh] <;> omega
theorem ac7{x:Step}(e:x.op=7):(x.lits.all (λl=>decide (l.length<=100))&&lN x 1 1)=cM x:=by
 unfold lN cM counts;rw[e]
 skip
 generalize x.lits.all (λl=>decide (l.length<=100))=L;generalize x.args.length=n;generalize x.lits.length=m;generalize x.lits.head?=hd;generalize x.n=c;rw[ec];by_cases hh:hd=some []
 ·cases L <;> simp[hh] <;> omega
 ·cases L <;> simp[hh] <;> omega
theorem ac6{x:Step}(e:x.op=8):(x.lits.all (λl=>decide (l.length<=100))&&lN x 1 2)=cM x:=by
 unfold lN cM counts;rw[e]
 skip
 generalize x.lits.all (λl=>decide (l.length<=100))=L;generalize x.args.length=n;generalize x.lits.length=m;generalize x.lits.head?=hd;generalize x.n=c;rw[ec];by_cases hh:hd=some []
 ·cases L <;> simp[hh] <;> omega
 ·cases L <;> simp[hh] <;> omega
theorem OH(h:bG E){v:V}{x:Step}(hv:OQ v x)(hsm:x.lits.length<=4294967296):aB E 172 [v] Z K=K (.bool (cM x)) Z:=by
 refine aB.of ?_;have ev:=hv.snap (E:=E) Z;obtain⟨a,b,rfl,ia,ib⟩:=hv;have la:=bT h ia;rw[aH h.abB h.Y2 h.acA h.aaB (args':=[.agg [.str x.out,.int .i64 x.op,a,b,.int .i64 x.n]]) (by simp only[aW,ev]),aU (by kernel_rfl)];have hoka:a.aZ=true:=aQ ia.bE;have hokb:b.aZ=true:=aQ ib.bE;by_cases hop:x.op=1\/x.op=2\/x.op=3\/x.op=4\/x.op=9\/x.op=5\/x.op=6\/x.op=7\/x.op=8
 ·have key:=λA B h8 F g1 g3 g4 g5 hk=>Tm (K:=λv σ1=>match cQ σ1 E.ty false v with
    |some v=>v=.bool (cM x)
    |none=>False) h ia ib hsm (A:=A) (B:=B) h8 F g1 g3 g4 g5 hk
  generalize hC:cutAt [1,1,1,1] (aA ao).code=C at key;generalize hD:cutAt [1,1,1,0,1,2,2] (aA ao).code=D at key;have e1:(aA ao).code=.seq (cutAt [0] (aA ao).code) (.seq (cutAt [1,0] (aA ao).code) (.seq (cutAt [1,1,0] (aA ao).code) (.seq (.seq (cutAt [1,1,1,0,0] (aA ao).code) (.block 1 (.loop D))) C))):=by rw[<- hC,<- hD];rfl
  rw[e1];clear e1 hC hD;rcases hop with e | e | e | e | e | e | e | e | e
  ·have q:∀k:Int,decide (x.op=k)=decide ((1:Int)=k):=λk=>by rw[e]
   simp only[aA,ao,KP,ι,↓reduceIte,δ,ε,μ,reduceCtorEq,h.mP,h.dF,cutAt,q,hoka,hokb];refine key 1 0 (λe8 e9=>?_) _ ?_ ?_ ?_ ?_ ?_
   ·omega
   ·simp+decide only[GS]
   ·simp+decide only[GS]
   ·simp+decide only[GS]
   ·simp+decide only[GS]
   ·exact b8 du (end_1 e)
  ·have q:∀k:Int,decide (x.op=k)=decide ((2:Int)=k):=λk=>by rw[e]
   simp only[aA,ao,KP,ι,↓reduceIte,δ,ε,μ,reduceCtorEq,reduceEq,h.mP,h.dF,cutAt,q,hoka,hokb];refine key 1 0 (λe8 e9=>?_) _ ?_ ?_ ?_ ?_ ?_
   ·omega
   ·simp+decide only[GS]
   ·simp+decide only[GS]
   ·simp+decide only[GS]
   ·simp+decide only[GS]
   ·exact b8 du (ade e)
  ·have q:∀k:Int,decide (x.op=k)=decide ((3:Int)=k):=λk=>by rw[e]
   simp only[aA,ao,KP,ι,↓reduceIte,δ,ε,μ,reduceCtorEq,reduceEq,h.mP,h.dF,cutAt,q,hoka,hokb];refine key 1 0 (λe8 e9=>?_) _ ?_ ?_ ?_ ?_ ?_
   ·omega
   ·simp+decide only[GS]
   ·simp+decide only[GS]
   ·simp+decide only[GS]
   ·simp+decide only[GS]
   ·exact b8 du (adb e)
  ·have q:∀k:Int,decide (x.op=k)=decide ((4:Int)=k):=λk=>by rw[e]
   simp only[aA,ao,KP,ι,↓reduceIte,δ,ε,μ,reduceCtorEq,reduceEq,h.mP,h.dF,cutAt,q,hoka,hokb];refine key 1 0 (λe8 e9=>?_) _ ?_ ?_ ?_ ?_ ?_
   ·omega
   ·simp+decide only[GS]
   ·simp+decide only[GS]
   ·simp+decide only[GS]
   ·simp+decide only[GS]
   ·exact b8 du (ada e)
  ·have q:∀k:Int,decide (x.op=k)=decide ((9:Int)=k):=λk=>by rw[e]
   simp only[aA,ao,KP,ι,↓reduceIte,δ,ε,μ,reduceCtorEq,reduceEq,h.mP,h.dF,cutAt,q,hoka,hokb];refine key 1 0 (λe8 e9=>?_) _ ?_ ?_ ?_ ?_ ?_
   ·omega
   ·simp+decide only[GS]
   ·simp+decide only[GS]
   ·simp+decide only[GS]
   ·simp+decide only[GS]
   ·exact b8 du (ac5 e)
  ·have q:∀k:Int,decide (x.op=k)=decide ((5:Int)=k):=λk=>by rw[e]
   simp only[aA,ao,KP,ι,↓reduceIte,δ,ε,μ,reduceCtorEq,reduceEq,h.mP,h.bB,h.dF,cutAt,la,q,hoka,hokb,min2];refine key (if (6:Int)<(x.args.length:Int) then 6 else (x.args.length:Int)) 0 (λe8 e9=>?_) _ ?_ ?_ ?_ ?_ ?_
   ·omega
   ·simp+decide only[GS]
   ·simp+decide only[GS]
   ·simp+decide only[GS]
   ·simp+decide only[GS]
   ·exact b8 du (ac9 e)
  ·have q:∀k:Int,decide (x.op=k)=decide ((6:Int)=k):=λk=>by rw[e]
   simp only[aA,ao,KP,ι,↓reduceIte,δ,ε,μ,reduceCtorEq,reduceEq,h.mP,h.dF,cutAt,q,hoka,hokb];refine key 0 1 (λe8 e9=>?_) _ ?_ ?_ ?_ ?_ ?_
   ·omega
   ·simp+decide only[GS]
   ·simp+decide only[GS]
   ·simp+decide only[GS]
   ·simp+decide only[GS]
   ·exact b8 du (ac8 e)
  ·have q:∀k:Int,decide (x.op=k)=decide ((7:Int)=k):=λk=>by rw[e]
   simp only[aA,ao,KP,ι,↓reduceIte,δ,ε,μ,reduceCtorEq,reduceEq,h.mP,h.dF,cutAt,q,hoka,hokb];refine key 1 1 (λe8 e9=>?_) _ ?_ ?_ ?_ ?_ ?_
   ·omega
   ·simp+decide only[GS]
   ·simp+decide only[GS]
   ·simp+decide only[GS]
   ·simp+decide only[GS]
   ·exact b8 du (ac7 e)
  ·have q:∀k:Int,decide (x.op=k)=decide ((8:Int)=k):=λk=>by rw[e]
   simp only[aA,ao,KP,ι,↓reduceIte,δ,ε,μ,reduceCtorEq,reduceEq,h.mP,h.dF,cutAt,q,hoka,hokb];refine key 1 2 (λe8 e9=>?_) _ ?_ ?_ ?_ ?_ ?_
   ·intro e0;rw[e0]at e9;simp at e9
   ·simp+decide only[GS]
   ·simp+decide only[GS]
   ·simp+decide only[GS]
   ·simp+decide only[GS]
   ·exact b8 du (ac6 e)
 ·have q:∀k:Int,(k=1\/k=2\/k=3\/k=4\/k=9\/k=5\/k=6\/k=7\/k=8)->decide (x.op=k)=false:=λk hk=>AS (λe=>hop (by rw[e];exact hk));have q1:=q 1 (by simp);have q2:=q 2 (by simp);have q3:=q 3 (by simp);have q4:=q 4 (by simp);have q5:=q 5 (by simp);have q6:=q 6 (by simp);have q7:=q 7 (by simp);have q8:=q 8 (by simp);have q9:=q 9 (by simp);simp only[aA,ao,KP,ι,↓reduceIte,δ,ε,μ,reduceCtorEq,h.mP,h.dF,hoka,hokb,q1,q2,q3,q4,q5,q6,q7,q8,q9]
  have e:cM x=false:=by
   unfold cM;rw[AS (by omega)];rfl
  rw[e];exact rfl
theorem N8(h:bG E){v:V}{x:Step}(hv:OQ v x)(hsm:x.lits.length<=4294967296):KC E 172 [v] Z (.bool (cM x)) Z:=dX λ_=>OH h hv hsm
def uG(l:List bF)(c:Nat):List bF:=if c=47 then l++[[]] else l.set (l.length-1) ((l[l.length-1]?).getD []++[c])
theorem AD(c:Nat):∀s:bF,cT c s≠[]
 | []=>by simp[cT]
 |a::r=>by
  rw[cT];split
  ·simp
  ·split <;> simp
theorem xY{p:bF}{l:List bF}(hl:l≠[])(c:Nat):uG (p::l) c=p::uG l c:=by
 obtain⟨x,r,rfl⟩:=o5 hl;unfold uG;split
 ·rfl
 ·simp
theorem uS(c:Nat):∀s:bF,cT 47 (s++[c])=uG (cT 47 s) c
 | []=>by
  by_cases h:c=47 <;> simp[cT,uG,h]
 |a::r=>by
  have ih:=uS c r;rw[ey,cT,cT];by_cases h:a=47
  ·rw[az h,az h,ih,xY (AD 47 r)]
  ·rw[an h,an h,ih];obtain⟨p,ps,hp⟩:=o5 (AD 47 r);rw[hp];cases ps with
   |nil=>
    unfold uG;by_cases hc:c=47
    ·simp[hc]
    ·simp[hc]
   |cons q qs=>
    have e1:uG (p::q::qs) c=p::uG (q::qs) c:=xY (by simp) c;have e2:uG ((a::p)::q::qs) c=(a::p)::uG (q::qs) c:=xY (by simp) c;rw[e1];exact e2.symm
theorem sR(c:Nat):∀s:bF,(cT c s).length<=s.length+1
 | []=>OF _
 |a::r=>by
  have ih:=sR c r;rw[cT];split
  ·simp only[IT];omega
  ·split
   ·rename_i h;rw[h]at ih;simp only[IT]at ih ⊢;omega
   ·simp
theorem uT{s:bF}:∀{P:List bF},cT 47 s=P->∀y∈P,y.length<=s.length:=by
 induction s with
 |nil=>intro P hP y hy;subst hP;simp[cT]at hy;subst hy;exact OF _
 |cons a r ih=>
  intro P hP y hy;subst hP;rw[cT]at hy;split at hy
  ·rcases IN.1 hy with rfl | hy
   ·simp
   ·have:=ih rfl y hy;simp only[IT];omega
  ·split at hy
   ·rename_i p ps hp;rcases IN.1 hy with rfl | hy
    ·have:=ih hp p (No ..);simp only[IT];omega
    ·have:=ih hp y (ae _ hy);simp only[IT];omega
   ·simp at hy;subst hy;simp
theorem ES(n:Nat)(h0:0<n)(h:n<9223372036854775807):wr .i64 ((n:Int)-1)=((n-1:Nat):Int):=by
 rw[Aw,az]
 ·omega
 ·have h1:lo .i64 = -9223372036854775808:=rfl;have h2:hi .i64=9223372036854775807:=rfl;rw[h1,h2,ak,af,af];omega
theorem MB(h:bG E){s:bF}{i c:Nat}(hc:s[i]?=some c):Ax.index E 9 (.str s) (.int .i64 (i:Int))=some (.int .u8 (c:Int)):=by
 have hneg:¬ ((i:Int)<0):=by omega
 unfold Ax.index;simp only[h.dJ,hneg,b9,dx,hc]
theorem Nq(h:bG E){s:bF}{i c:Nat}(hc:s[i]?=some c):Ax.slice E Z 9 (.str s) (some (.int .i64 (i:Int))) (some (.int .i64 ((i+1:Nat):Int))) none=some (.str [c]):=by
 have hi:=(AI.1 hc).1
 have hb:∀n m:Nat,m<=n->∀d,Ax.bound n (some (.int .i64 (m:Int))) d=some m:=λn m hm d=>by
  unfold Ax.bound;simp only[];rw[az (by simp only[ak,af];omega)];rfl
 unfold Ax.slice;simp only[h.dJ,ja,ai,b9];rw[hb s.length (i+1) hi];simp only[];rw[hb (i+1) i (by omega)];simp only[];rw[show i+1-i=1 by omega,jv hi];have:=(AI.1 hc).2;rw[this];rfl
theorem lM(s:bF):Ax.fill (λj=>some (j*1,1)) (gG 1 [V.str []]) [(0,V.str s)]=some [.str s]:=rfl
theorem UW(h:bG E){s:bF}(hsm:s.length<=1000000000):aB E 196 [.str s] Z λv σ'=>σ'=Z/\kQ aP v (cT 47 s):=by
 rw[aH h.abu h.YV h.acs h.aav (args':=[.str s]) (by simp only[aW,dM]),aU (by kernel_rfl)];simp only[aA,Tryz.f196,KP,↓reduceIte,ε,ω,ap,h.dJ,h.bB,lZ,lM];have d7:=h.XE;simp only[aA,Tryz.f196,cutAt,ay]at d7;refine aV (λi F Y=>F.get 0=.str s/\F.get 4=.int .i64 (i:Int)/\∃w,F.get 3=w/\aY aP 9 Y w (cT 47 (s.take i))) s.length ?_ ?_ s.length 0 _ _ (by omega) (mJ (by simp+decide only[GS,aj]) ⟨.sl 0 0 1 none,(by simp+decide only[GS]),.inr ⟨0,[[.str []]],true,rfl,rfl,.one rfl⟩⟩)
 ·rintro i F Y hi ⟨g0,g4,w,g3,ow⟩ next
  obtain⟨c,hc⟩:∃c,s[i]?=some c:=⟨_,AT hi⟩;have e1:=MB h hc;have hlt:=dR hi;have hadd:=bW i (by omega);have htk:s.take (i+1)=s.take i++[c]:=by rw[dz,hc];rfl
  have hln:=sR 47 (s.take i);have hln2:(s.take i).length<=s.length:=by rw[bl];omega
  rw[aF];by_cases h47:c=47
  ·have q:decide ((c:Int)=47)=true:=BY (by omega);obtain⟨w',τ',ha,ow',-,-,-⟩:=kB (ats:=#[24,24]) (x:=.sl Y.length 0 1 none) (m:=[[]]) (new:=[[.str []]]) h.bB rfl h.dJ rfl (by decide) (kF h) rfl (ow.app [.cells 9 [.str []] true]) (mI rfl) (.one rfl) (dO (b:=1000000002) (by decide) (by simp only[IT,aq];omega));simp only[KP,↓reduceIte,δ,ε,ω,ap,reduceCtorEq,h.dJ,h.bB,gB h,lZ,g0,g3,g4,hlt,e1,q,lM,ha,hadd];refine next _ _ (mJ (by simp+decide only[GS,g0,aj]) ⟨w',(by simp+decide only[GS]),?_⟩)
   rw[htk,uS,uG,az h47];exact ow'
  ·have q:decide ((c:Int)=47)=false:=AS (by omega);have hpos:0<(cT 47 (s.take i)).length:=ej.2 (AD 47 _);generalize hP:cT 47 (s.take i)=P at *;obtain⟨y,hy⟩:∃y,P[P.length-1]?=some y:=⟨_,AT (by omega)⟩
   have hyl:y.length<=s.length:=by
    have:=uT hP y (ag hy);omega
   obtain⟨b,e2,-,τ',e3,ow',-,-⟩:=AB (u:=.str (y++[c])) (y:=y++[c]) h.bB rfl h.dJ rfl ow (i:=P.length-1) (by omega) rfl rfl;obtain⟨p,r,e4,e5,-,e6,-⟩:=Eo (Z:=Y) h.bB rfl h.dJ rfl ow.ls hy;have e6:=e6 rfl (by decide);rw[e2]at e4;cases e4;rw[show r=[.str y] from e5]at e6;have e6:loadAt E Y 9 (.ref b ((P.length-1)*1))=some (.str y):=e6;have e3:storeAt E Y 9 (.ref b ((P.length-1)*1)) (.str (y++[c]))=some τ':=e3;have e2:indexAddr E 24 w (.int .i64 ((P.length-1:Nat):Int))=some (.ref b ((P.length-1)*1)):=e2
   have lw:∀Z,lenOf E Z 24 w=some P.length:=λZ=>by
    rcases ow with⟨rfl,rfl⟩ | ⟨b,rs,ex,rfl,-⟩
    ·simp at hpos
    ·unfold lenOf;rw[h.bB]
   have hdn:=ES P.length hpos (by omega);have hsl:=λZ=>Nq (Z:=Z) h hc;have hcat:decide (y.length<=9223372036854775806)=true:=BY (by omega);simp only[KP,↓reduceIte,δ,ε,ω,reduceCtorEq,gB h,g0,g3,g4,hlt,e1,q,lw,hdn,aX d7,bS,e2,e6,hadd,hsl,hcat,e3];refine next _ _ ⟨?_,?_,w,?_,?_⟩
   ·simp+decide only[GS,g0]
   ·simp+decide only[GS]
   ·simp+decide only[GS,g3]
   rw[htk,uS,hP,uG,an h47,hy];exact ow'
 ·rintro F Y ⟨g0,g4,w,g3,ow⟩;have hlt:=dW (bt s.length);rw[aF];rw[ah (OF _)]at ow;obtain⟨v',e1,hv⟩:=pQ h.dJ rfl (λr x hr c hc=>by rw[show r=[.str x] from hr]at hc;cases hc with | head=>rfl | tail _ h=>cases h) ow;simp only[KP,↓reduceIte,δ,ε,reduceCtorEq,gB h,g0,g3,g4,hlt,e1];exact hv
theorem Qv{s:bF}(h1:pW s=false)(h2:s.length<=40):bL s=(cT 47 s).all sZ:=by
 unfold bL;rw[h1,BY h2];simp
theorem AR{p:bF}(h:p=[]\/p=[46]\/p=[46,46]):sZ p=false:=by
 unfold sZ;rcases h with rfl | rfl | rfl <;> simp
theorem Kv{p:bF}(h1:p≠[])(h2:p≠[46])(h3:p≠[46,46]):sZ p=p.all sign:=by
 unfold sZ;rw[AS h1,AS h2,AS h3];simp
theorem RO(h:bG E){s:bF}:aB E 173 [.str s] Z K=K (.bool (bL s)) Z:=by
 refine aB.of ?_;rw[aH h.abA h.Y1 h.acz h.aaA (args':=[.str s]) (by simp only[aW,dM]),aU (by kernel_rfl)];have ls:∀Z,lenOf E Z 9 (.str s)=some s.length:=λZ=>gB h;by_cases h0:s=[]
 ·subst h0;simp only[aA,Tryz.f173,KP,↓reduceIte,δ,ε,reduceCtorEq,Int.reduceLT,gB h];exact rfl
 have hl0:0<s.length:=ej.2 h0;have q0:decide ((s.length:Int)<1)=false:=AS (by omega);by_cases h40:s.length<=40
 case neg=>
  have q1:decide ((40:Int)<(s.length:Int))=true:=BY (by omega);simp only[aA,Tryz.f173,KP,↓reduceIte,δ,ε,reduceCtorEq,gB h,q0,q1];show du false=_;unfold bL;rw[AS h40,Bool.and_false,l8]
 have q1:decide ((40:Int)<(s.length:Int))=false:=AS (by omega);by_cases w3:s=[114,117,108,101]
 ·have e3:=iX w3;simp only[aA,Tryz.f173,KP,↓reduceIte,δ,ε,reduceCtorEq,gB h,D9,q0,q1,e3];rw[w3];exact rfl
 have e3:=gW w3;by_cases w4:s=[105,110]
 ·have e4:=iX w4;simp only[aA,Tryz.f173,KP,↓reduceIte,δ,ε,reduceCtorEq,gB h,D9,Ho,q0,q1,e3,e4];rw[w4];exact rfl
 have e4:=gW w4;by_cases w5:s=[111,117,116]
 ·have e5:=iX w5;simp only[aA,Tryz.f173,KP,↓reduceIte,δ,ε,reduceCtorEq,gB h,D9,Ho,KV,q0,q1,e3,e4,e5];rw[w5];exact rfl
 have e5:=gW w5;by_cases w6:s=[97,102,116,101,114]
 ·have e6:=iX w6;simp only[aA,Tryz.f173,KP,↓reduceIte,δ,ε,reduceCtorEq,gB h,D9,Ho,KV,RD,q0,q1,e3,e4,e5,e6];rw[w6];exact rfl
 have e6:=gW w6;have hsm:s.length<=1000000000:=by omega
 have hr:pW s=false:=by unfold pW;rw[AS w3,AS w4,AS w5,AS w6];rfl
 rw[Qv hr h40];simp only[aA,Tryz.f173,KP,↓reduceIte,δ,ε,reduceCtorEq,gB h,D9,Ho,KV,RD,q0,q1,e3,e4,e5,e6];refine aK (UW h hsm) ?_;rintro v σ' ⟨rfl,hv⟩;have iv:=hv.is;have la:=bT h iv;have hPl:=sR 47 s;have hPp:=uT (s:=s) rfl;generalize cT 47 s=P at *;simp only[KP,↓reduceIte,ε];refine aV (λi F Y=>Y=[]/\F.get 3=v/\F.get 4=.int .i64 (i:Int)/\∀j y,j<i->P[j]?=some y->sZ y=true) P.length ?_ ?_ P.length 0 _ _ (by omega) ⟨rfl,(mJ (by simp+decide only[GS,aj]) (λj y hj=>by omega))⟩
 ·rintro i F Y hi ⟨rfl,g3,g4,hp⟩ next
  obtain⟨p,hpi⟩:∃p,P[i]?=some p:=⟨_,AT hi⟩;have hpl:=hPp p (ag hpi);obtain⟨g,e1⟩:=g_ h iv hpi;have hlt:=dR hi;have hadd:=bW i (by omega);rw[aF];by_cases b1:p=[]
  ·have s1:=iX b1;rw[iL hpi (AR (.inl b1))];simp only[KP,ι,↓reduceIte,δ,ε,h.dJ,lZ,g3,g4,la,hlt,e1,s1];exact rfl
  have s1:=gW b1;by_cases b2:p=[46]
  ·have s2:=iX b2;rw[iL hpi (AR (.inr (.inl b2)))];simp only[KP,ι,↓reduceIte,δ,ε,h.dJ,lZ,On,g3,g4,la,hlt,e1,s1,s2];exact rfl
  have s2:=gW b2;by_cases b3:p=[46,46]
  ·have s3:=iX b3;rw[iL hpi (AR (.inr (.inr b3)))];simp only[KP,ι,↓reduceIte,δ,ε,h.dJ,lZ,On,UG,g3,g4,la,hlt,e1,s1,s2,s3];exact rfl
  have s3:=gW b3;simp only[KP,ι,↓reduceIte,δ,ε,h.dJ,lZ,On,UG,g3,g4,la,hlt,e1,s1,s2,s3];refine aV (λk F Y=>Y=[]/\F.get 3=v/\F.get 4=.int .i64 (i:Int)/\F.get 5=.int .i64 (k:Int)/\∀j y,j<k->p[j]?=some y->sign y=true) p.length ?_ ?_ p.length 0 _ _ (by omega) ⟨rfl,(fK (by simp+decide only[GS,g3,g4,aj]) (λj y hj=>by omega))⟩
  ·rintro k F Y hk ⟨rfl,g3,g4,g5,hq⟩ next2;obtain⟨c,hc⟩:∃c,p[k]?=some c:=⟨_,AT hk⟩;have e2:=MB h hc;have hlt2:=dR hk;have hadd2:=bW k (by omega);have kf:=λ(Y:Sg)=>Xi (Z:=Y) h (c:=c);rw[aF];by_cases hs:sign c=true
   ·simp only[KP,ι,↓reduceIte,δ,ε,h.dJ,gB h,g3,g4,g5,hlt2,e1,e2,kf,hs,hadd2];refine next2 _ _ ⟨rfl,(fK (by simp+decide only[GS,g3,g4,aj]) (λj y hj hy=>?_))⟩;rcases cr j k with g | g
    ·exact hq j y g hy
    ·obtain rfl:j=k:=by omega
     rw[hc]at hy;cases hy;exact hs
   ·have hs:sign c=false:=by simpa using hs
    rw[iL hpi (by rw[Kv b1 b2 b3];exact iL hc hs)];simp only[KP,ι,↓reduceIte,δ,ε,h.dJ,gB h,g3,g4,g5,hlt2,e1,e2,kf,hs];exact rfl
  ·rintro F Y ⟨rfl,g3,g4,g5,hq⟩;have hlt2:=dW (bt p.length);rw[aF];simp only[KP,ι,↓reduceIte,δ,ε,h.dJ,gB h,g3,g4,g5,hlt2,e1,hadd];refine next _ _ ⟨rfl,(mJ (by simp+decide only[GS,g3,aj]) (λj y hj hy=>?_))⟩
   rcases cr j i with g | g
   ·exact hp j y g hy
   ·obtain rfl:j=i:=by omega
    rw[hpi]at hy;cases hy;rw[Kv b1 b2 b3];exact Bk λj y _ hy=>hq j y (AI.1 hy).1 hy
 ·rintro F Y ⟨rfl,g3,g4,hp⟩;have hlt:=dW (bt P.length);rw[aF];rw[Bk λj y _ hy=>hp j y (AI.1 hy).1 hy];simp only[KP,↓reduceIte,δ,ε,g3,g4,la,hlt];exact rfl
theorem Q6(h:bG E){s:bF}:KC E 173 [.str s] Z (.bool (bL s)) Z:=dX λ_=>RO h
theorem qO{f:V->V->Bool}:∀{l:List V},(∀x∈l,f x x=true)->rL f l l=true
 | [],_=>rfl
 |x::l,h=>by
  show (f x x&&rL f l l)=true;rw[h x (No ..),qO λy hy=>h y (ae _ hy)];rfl
theorem Er{f:List V->List V->Bool}:∀{l:List (List V)},(∀x∈l,f x x=true)->rL f l l=true
 | [],_=>rfl
 |x::l,h=>by
  show (f x x&&rL f l l)=true;rw[h x (No ..),Er λy hy=>h y (ae _ hy)];rfl
theorem Pa{α:Type}{L:Lay α}(n:Nat)(hL:∀r x,L.P r x->∀c∈r,sO n c c=true){v:V}{l:List α}(h:IS L v l):sO (n+1) v v=true:=by
 rcases h with⟨rfl,-⟩ | ⟨g,rs,full,rfl,ha⟩
 ·rfl
 ·show (g==g&&rL (rL (sO n)) rs rs&&full==full)=true;rw[Er λr hr=>?_]
  ·simp
  ·obtain⟨x,-,hp⟩:=ha.mem hr;exact qO (hL r x hp)
theorem Br(n:Nat)(s:bF):sO (n+1) (.str s) (.str s)=true:=iX rfl
theorem Lq(n:Nat)(k:IntKind)(i:Int):sO (n+1) (.int k i) (.int k i)=true:=by
 show (decide (k=k)&&decide (i=i))=true;simp
theorem cL{v:V}{l:List bF}(n:Nat)(h:IS aP v l):sO (n+2) v v=true:=Pa (n+1) (λr x hr c hc=>by
 rw[show r=[.str x] from hr]at hc;cases hc with
 |head=>exact Br n x
 |tail _ h=>cases h) h
theorem pJ{v:V}{l:List am}(n:Nat)(h:IS fB v l):sO (n+3) v v=true:=Pa (n+2) (λr x hr c hc=>by
 obtain⟨a,b,rfl,h1,h2⟩:=hr;simp only[IN,bz,ek]at hc;rcases hc with rfl | rfl | rfl | rfl | rfl
 ·exact Br (n+1) _
 ·exact Lq (n+1) _ _
 ·exact cL n h1
 ·exact cL n h2
 ·exact Lq (n+1) _ _) h
theorem Ao(h:bG E){Y:Sg}{w v:V}{l m:List bF}(ow:aY aP 9 Y w l)(iv:IS aP v m)(hb:l.length+m.length<=1000000000):∃w' τ',rt E Y #[24,24] w v=some (w',τ')/\aY aP 9 τ' w' (l++m)/\Sp Y τ' w/\Y.length<=τ'.length/\∀b,aO w'=some b->aO w=some b\/Y.length<=b:=by
 obtain⟨rs,e,ha⟩:=sA iv Y;exact kB h.bB rfl h.dJ rfl (by decide) (kF h) rfl ow e ha (dO (b:=1000000000) (by decide) hb)
theorem Hx(h:bG E){Y:Sg}{w:V}{l:List bF}{s:bF}{ex:Bool}(ow:aY aP 9 Y w l)(hb:l.length<=1000000000):∃w' τ',rt E (Y++[.cells 9 [.str s] ex]) #[24,24] w (.sl Y.length 0 1 none)=some (w',τ')/\aY aP 9 τ' w' (l++[s])/\Sp (Y++[.cells 9 [.str s] ex]) τ' w/\Y.length<=τ'.length:=by
 obtain⟨w',τ',h1,h2,h3,h4,-⟩:=kB (m:=[s]) (new:=[[.str s]]) h.bB rfl h.dJ rfl (by decide) (kF h) rfl (ow.app [.cells 9 [.str s] ex]) (mI rfl) (.one rfl) (dO (b:=1000000001) (by decide) (by simp only[IT,aq];omega));exact⟨w',τ',h1,h2,h3,by simp only[By,IT,aq]at h4;omega⟩
theorem T5(h:bG E){x:aD}{a b c d:V}(ia:IS aP a x.ins)(ib:IS aP b x.outs)(ic:IS aP c x.after)(hsm:x.ins.length<=100000000/\x.outs.length<=100000000/\x.after.length<=100000000)(F:FT)(g1:F.get 1=.ref 0 0)(g2:F.get 2=.bool false) :
  ∃F' Y w,cP E (ev E 0) (opsOf (cutAt [1,0] (aA m8).code)) ⟨64,F⟩ [.cells 46 [.str x.name,a,b,c,d] true]=some (⟨64,F'⟩,Y)/\F'.get 1=.ref 0 0/\F'.get 3=w/\Y[0]?=some (.cells 46 [.str x.name,a,b,c,d] true)/\aY aP 9 Y w (x.name::(x.ins++(x.outs++x.after)))/\aO w≠some 0:=by
 have o0:aY aP 9 [.cells 46 [.str x.name,a,b,c,d] true,.cells 9 [.str x.name] true] (.sl 1 0 1 none) [x.name]:=.inr ⟨1,[[.str x.name]],true,rfl,rfl,.one rfl⟩;obtain⟨w1,τ1,ha1,o1,k1,n1,-⟩:=Ao h o0 ia (by simp only[IT,aq];omega);obtain⟨w2,τ2,ha2,o2,k2,n2,-⟩:=Ao h o1 ib (by simp only[By,IT,aq];omega);obtain⟨w3,τ3,ha3,o3,k3,n3,-⟩:=Ao h o2 ic (by simp only[By,IT,aq];omega);have b1:τ1[0]?=some (.cells 46 [.str x.name,a,b,c,d] true):=k1 0 _ rfl (by show some 1≠some 0;simp)
 have nb:∀{Y:Sg}{w:V}{l:List bF},Y[0]?=some (.cells 46 [.str x.name,a,b,c,d] true)->aY aP 9 Y w l->aO w≠some 0:=by
  rintro Y w l hb (⟨rfl,-⟩ | ⟨b,rs,ex,rfl,hc,-⟩) e
  ·cases e
  ·cases e;rw[hb]at hc;cases hc
 have b2:τ2[0]?=some (.cells 46 [.str x.name,a,b,c,d] true):=k2 0 _ b1 (nb b1 o1);have b3:τ3[0]?=some (.cells 46 [.str x.name,a,b,c,d] true):=k3 0 _ b2 (nb b2 o2);have va:=cL 10 ia;have vb:=cL 10 ib;have vc:=cL 10 ic;unfold cP;rw[h.VD,h.WG];simp only[aA,m8,KP,ι,↓reduceIte,δ,ε,ω,μ,ap,reduceCtorEq,h.dJ,h.bB,h.bO,opsOf,cutAt,Fz.lits,Fz.apps,iQ,bN,cE,lD,Ax.comp,Ax.last,iM,ly,g1,lM,ha1,ha2,ha3,b1,b2,va,vb,vc];refine⟨_,_,w3,rfl,(mJ (by simp+decide only[GS,g1,aj]) ⟨b3,?_,nb b3 o3⟩)⟩;have e:[x.name]++x.ins++x.outs++x.after=x.name::(x.ins++(x.outs++x.after)):=by simp
 rw[<- e];exact o3
theorem T4(h:bG E){x:aD}{a b c d:V}(id:IS fB d x.steps){st:am}{i:Nat}(hi:x.steps[i]?=some st){Y:Sg}{w:V}{l:List bF}(b0:Y[0]?=some (.cells 46 [.str x.name,a,b,c,d] true))(ow:aY aP 9 Y w l)(nw:aO w≠some 0)(hsm:l.length<=500000000/\st.args.length<=100000000)
  (F:FT)(g1:F.get 1=.ref 0 0)(g3:F.get 3=w)(g4:F.get 4=.int .i64 (i:Int)) :
  ∃F' τ' w',cP E (ev E 0) (opsOf (cutAt [1,1,0,1,2,2,1,0,2,1] (aA m8).code)) ⟨64,F⟩ Y=some (⟨64,F'⟩,τ')/\F'.get 1=.ref 0 0/\F'.get 3=w'/\F'.get 4=.int .i64 (i:Int)/\τ'[0]?=some (.cells 46 [.str x.name,a,b,c,d] true)/\aY aP 9 τ' w' (l++st.out::st.args)/\aO w'≠some 0:=by
 obtain⟨g,p,q,e1,ip,iq⟩:=wT h id hi;obtain⟨w1,τ1,ha1,o1,k1,n1⟩:=Hx (s:=st.out) (ex:=true) h ow (by omega);obtain⟨w2,τ2,ha2,o2,k2,n2,-⟩:=Ao h o1 ip (by simp only[By,IT,aq];omega);have b0':(Y++[ζ 9 [.str st.out] true])[0]?=some (.cells 46 [.str x.name,a,b,c,d] true):=by rw[au (AI.1 b0).1];exact b0
 have nb:∀{Y:Sg}{w:V}{l:List bF},Y[0]?=some (.cells 46 [.str x.name,a,b,c,d] true)->aY aP 9 Y w l->aO w≠some 0:=by
  rintro Y w l hb (⟨rfl,-⟩ | ⟨b,rs,ex,rfl,hc,-⟩) e
  ·cases e
  ·cases e;rw[hb]at hc;cases hc
 have b1:τ1[0]?=some (.cells 46 [.str x.name,a,b,c,d] true):=k1 0 _ b0' nw;have b2:τ2[0]?=some (.cells 46 [.str x.name,a,b,c,d] true):=k2 0 _ b1 (nb b1 o1);have va:=cL 10 ip;have vd:=pJ 9 id;unfold cP;rw[h.VC,h.WE];simp only[aA,m8,KP,ι,↓reduceIte,δ,ε,ω,μ,ap,reduceCtorEq,h.dJ,h.bB,h.gA,h.bO,h.dF,opsOf,cutAt,Fz.lits,Fz.apps,iQ,bN,cE,lD,Ax.comp,Ax.last,iM,ly,g1,g3,g4,lM,ha1,ha2,b0,b0',b1,e1,va,vd];refine⟨_,_,w2,rfl,(fK (by simp+decide only[GS,g1,g4,aj]) ⟨b2,?_,nb b2 o2⟩)⟩;have e:l++[st.out]++st.args=l++st.out::st.args:=by simp
 rw[<- e];exact o2
theorem T7(h:bG E){x:aD}{a b c d:V}(ia:IS aP a x.ins)(ib:IS aP b x.outs)(ic:IS aP c x.after)(hsm:x.ins.length<=100000000/\x.outs.length<=100000000/\x.after.length<=100000000)(F:FT)(g1:F.get 1=.ref 0 0)(g2:F.get 2=.bool false){s:List iT}{Q:Ax.X->Fr->Sg->Prop}
  (hk:∀F' Y w,F'.get 1=.ref 0 0->F'.get 3=w->Y[0]?=some (.cells 46 [.str x.name,a,b,c,d] true)->aY aP 9 Y w (x.name::(x.ins++(x.outs++x.after)))->aO w≠some 0->M E s .normal ⟨64,F'⟩ Y Q):R E (.region 1 (opsOf (cutAt [1,0] (aA m8).code)) true) s ⟨64,F⟩ [.cells 46 [.str x.name,a,b,c,d] true] Q:=by
 obtain⟨F',Y,w,hE,h1,h2,h3,h4,h5⟩:=T5 h ia ib ic hsm F g1 g2 (d:=d);exact Eq.mpr (iW hE) (hk F' Y w h1 h2 h3 h4 h5)
theorem T6(h:bG E){x:aD}{a b c d:V}(id:IS fB d x.steps){st:am}{i:Nat}(hi:x.steps[i]?=some st){Y:Sg}{w:V}{l:List bF}(b0:Y[0]?=some (.cells 46 [.str x.name,a,b,c,d] true))(ow:aY aP 9 Y w l)(nw:aO w≠some 0)(hsm:l.length<=500000000/\st.args.length<=100000000)
  (F:FT)(g1:F.get 1=.ref 0 0)(g3:F.get 3=w)(g4:F.get 4=.int .i64 (i:Int)){s:List iT}{Q:Ax.X->Fr->Sg->Prop}
  (hk:∀F' τ' w',F'.get 1=.ref 0 0->F'.get 3=w'->F'.get 4=.int .i64 (i:Int)->τ'[0]?=some (.cells 46 [.str x.name,a,b,c,d] true)->aY aP 9 τ' w' (l++st.out::st.args)->aO w'≠some 0->M E s .normal ⟨64,F'⟩ τ' Q) :
  R E (.region 7 (opsOf (cutAt [1,1,0,1,2,2,1,0,2,1] (aA m8).code)) true) s ⟨64,F⟩ Y Q:=by
 obtain⟨F',τ',w',hE,h1,h2,h3,h4,h5,h6⟩:=T4 h id hi b0 ow nw hsm F g1 g3 g4;exact Eq.mpr (iW hE) (hk F' τ' w' h1 h2 h3 h4 h5 h6)
def lK(x:aD)(l:List am):List bF:=x.name::(x.ins++(x.outs++x.after))++l.flatMap λs=>s.out::s.args
theorem T8(x:aD):lE x=(x.steps.all cM&&((lK x x.steps).all bL&&decide (0<x.outs.length))):=by
 unfold lE lK;rw[ec];simp only[ak,eu,af,cq,IN,ij,ej];constructor
 ·rintro⟨⟨⟨⟨⟨h1,h2⟩,h3⟩,h4⟩,h5⟩,h6⟩;refine⟨λs hs=>(h6 s hs).2,λn hn=>?_,h2⟩;rcases hn with (rfl | hn | hn | hn) | ⟨s,hs,rfl | hn⟩
  ·exact h1
  ·exact h3 n hn
  ·exact h4 n hn
  ·exact h5 n hn
  ·exact(h6 s hs).1.1
  ·exact(h6 s hs).1.2 n hn
 ·rintro⟨h1,h2,h3⟩
  exact⟨⟨⟨⟨⟨h2 _ (.inl (.inl rfl)),h3⟩,λn hn=>h2 n (.inl (.inr (.inl hn)))⟩,λn hn=>h2 n (.inl (.inr (.inr (.inl hn))))⟩,λn hn=>h2 n (.inl (.inr (.inr (.inr hn))))⟩,
   λs hs=>⟨⟨h2 _ (.inr ⟨s,hs,.inl rfl⟩),λn hn=>h2 n (.inr ⟨s,hs,.inr hn⟩)⟩,h1 s hs⟩⟩
theorem zU{x:aD}(hx:Small x):∀l:List am,l.length<=14->(∀s∈l,s.args.length<=8)->(lK x l).length<=1000:=by
 intro l h1 h2
 have:∀l:List am,(∀s∈l,s.args.length<=8)->(l.flatMap λs=>s.out::s.args).length<=9*l.length:=by
  intro l
  induction l with
  |nil=>intro _;simp
  |cons s l ih=>
   intro h;have:=ih λy hy=>h y (ae _ hy);have:=h s (No ..);simp only[fg,By,IT];omega
 have:=this l h2;have a1:=hx.ins;have a2:=hx.outs;have a3:=hx.after;unfold lK;simp only[By,IT];omega
theorem XT(h:bG E){v:V}{x:aD}(hv:JC v x)(hx:Small x):aB E 137 [v] Z K=K (.bool (lE x)) Z:=by
 refine aB.of ?_;have ev:=hv.snap (E:=E) Z;obtain⟨a,b,c,d,rfl,ia,ib,ic,id⟩:=hv;have a1:=hx.ins;have a2:=hx.outs;have a3:=hx.after;have a4:=hx.steps;rw[aH h.abJ h.Y_ h.acH h.aaI (args':=[.agg [.str x.name,a,b,c,d]]) (by simp only[aW,ev]),aU (by kernel_rfl)];have ha:=aQ ia.bE;have hb:=aQ ib.bE;have hc:=aQ ic.bE;have hd:=aQ id.bE;have lb:=bT h ib;have ld:=mE h id;rw[T8];simp only[aA,m8,KP,↓reduceIte,ε,μ,h.bO,ha,hb,hc,hd];refine T7 h ia ib ic (by omega) _ ?_ ?_ ?_
 ·simp+decide only[GS]
 ·simp+decide only[GS]
 intro F1 τ1 w1 g1 g3 b1 o1 n1;simp only[KP,↓reduceIte,ε];refine aV (λi F Y=>Y[0]?=some (.cells 46 [.str x.name,a,b,c,d] true)/\F.get 1=.ref 0 0/\F.get 4=.int .i64 (i:Int)/\(∃w,F.get 3=w/\aY aP 9 Y w (lK x (x.steps.take i))/\aO w≠some 0)/\∀j y,j<i->x.steps[j]?=some y->cM y=true) x.steps.length ?_ ?_ x.steps.length 0 _ _ (by omega) ⟨b1,(mJ (by simp+decide only[GS,g1,aj]) ⟨⟨w1,(by simp+decide only[GS,g3]),by simpa [lK]using o1,n1⟩,λj y hj=>by omega⟩)⟩
 ·rintro i F Y hi ⟨b0,g1,g4,⟨w,g3,ow,nw⟩,hp⟩ next
  obtain⟨st,hst⟩:∃y,x.steps[i]?=some y:=⟨_,AT hi⟩;have hmem:=ag hst;obtain⟨g,p,q,e1,ip,iq⟩:=wT h id hst;have hlt:=dR hi;have hadd:=bW i (by omega);have hlits:=hx.lits st hmem;have hargs:=hx.args st hmem;have kf:=λ(Y:Sg)=>N8 (Z:=Y) h (v:=.agg [.str st.out,.int .i64 st.op,p,q,.int .i64 st.n]) (x:=st) ⟨p,q,rfl,ip,iq⟩ (by omega);rw[aF];by_cases hm:cM st=true
  ·simp only[KP,ι,↓reduceIte,δ,ε,μ,reduceCtorEq,h.gA,h.bO,h.dF,g1,g4,b0,ld,hlt,e1,kf,hm];have hln:=zU hx (x.steps.take i) (by rw[bl];omega) (λs hs=>hx.args s (jo hs));refine T6 h id hst b0 ow nw (by omega) _ ?_ ?_ ?_ ?_
   ·simp+decide only[GS,g1]
   ·simp+decide only[GS,g3]
   ·simp+decide only[GS,g4]
   intro F2 τ2 w2 k1 k3 k4 b2 o2 n2;simp only[KP,↓reduceIte,ε,k4,hadd];refine next _ _ ⟨b2,(mJ (by simp+decide only[GS,k1,aj]) ⟨⟨w2,(by simp+decide only[GS,k3]),?_,n2⟩,λj y hj hy=>?_⟩)⟩
   ·have e:lK x (x.steps.take (i+1))=lK x (x.steps.take i)++st.out::st.args:=by
     rw[dz,hst];simp[lK]
    rw[e];exact o2
   ·rcases cr j i with g | g
    ·exact hp j y g hy
    ·obtain rfl:j=i:=by omega
     rw[hst]at hy;cases hy;exact hm
  ·have hm:cM st=false:=by simpa using hm
   rw[iL hst hm,l8];simp only[KP,ι,↓reduceIte,δ,ε,μ,reduceCtorEq,h.gA,h.bO,h.dF,g1,g4,b0,ld,hlt,e1,kf,hm];exact rfl
 ·rintro F Y ⟨b0,g1,g4,⟨w,g3,ow,nw⟩,hp⟩;have hlt:=dW (bt x.steps.length);rw[aF];rw[Bk λj y _ hy=>hp j y (AI.1 hy).1 hy,jd];rw[ah (OF _)]at ow;have hln:=zU hx x.steps (by omega) hx.args;generalize lK x x.steps=L at *;have lw:∀σ',(σ'=Y)->lenOf E σ' 24 w=some L.length:=λσ' e=>by subst e;exact lV h.bB rfl ow.ls
  have lw:=lw Y rfl;simp only[KP,ι,↓reduceIte,δ,ε,reduceCtorEq,h.gA,h.bO,g1,g4,b0,ld,hlt];refine aV (λi F σ1=>σ1=Y/\F.get 1=.ref 0 0/\F.get 3=w/\F.get 5=.int .i64 (i:Int)/\∀j y,j<i->L[j]?=some y->bL y=true) L.length ?_ ?_ L.length 0 _ _ (by omega) ⟨rfl,(fK (by simp+decide only[GS,g1,g3,aj]) (λj y hj=>by omega))⟩
  ·rintro i F σ1 hi ⟨rfl,g1,g3,g5,hq⟩ next
   obtain⟨y,hy⟩:∃y,L[i]?=some y:=⟨_,AT hi⟩;have hlt:=dR hi;have hadd:=bW i (by omega);obtain⟨p,r,e1,hr,-,e2,-⟩:=Eo (Z:=σ1) h.bB rfl h.dJ rfl ow.ls hy;have e2:=e2 rfl (by decide);rw[show r=[.str y] from hr]at e2;have kf:=λ(Y:Sg)=>Q6 (Z:=Y) h (s:=y);rw[aF];by_cases hm:bL y=true
   ·simp only[KP,↓reduceIte,δ,ε,g3,g5,lw,hlt,e1,e2,kf,hm,hadd];refine next _ _ ⟨rfl,(fK (by simp+decide only[GS,g1,g3,aj]) (λj z hj hz=>?_))⟩
    rcases cr j i with g | g
    ·exact hq j z g hz
    ·obtain rfl:j=i:=by omega
     rw[hy]at hz;cases hz;exact hm
   ·have hm:bL y=false:=by simpa using hm
    rw[iL hy hm,l8];simp only[KP,↓reduceIte,δ,ε,g3,g5,lw,hlt,e1,e2,kf,hm];exact rfl
  ·rintro F σ1 ⟨rfl,g1,g3,g5,hq⟩;have hlt:=dW (bt L.length);rw[aF];rw[Bk λj y _ hy=>hq j y (AI.1 hy).1 hy,jd]
   have q:decide ((0:Int)<(x.outs.length:Int))=decide (0<x.outs.length):=by
    by_cases g:0<x.outs.length
    ·rw[BY g,BY (by omega)]
    ·rw[AS g,AS (by omega)]
   simp only[KP,ι,↓reduceIte,δ,ε,reduceCtorEq,h.bB,h.bO,g1,g3,g5,lw,hlt,b0,lb,q];exact rfl
theorem Xf(h:bG E){v:V}{x:aD}(hv:JC v x)(hx:Small x):KC E 137 [v] Z (.bool (lE x)) Z:=dX λ_=>XT h hv hx
theorem vQ{α:Type}{p:α->Bool}{l:List α}:(bR p l).isNone = !l.any p:=by
 rw[<- cO (p:=p) (l:=l)];cases bR p l <;> rfl
theorem MF{l:List bF}{s:bF}(h:s∈l):(bR (λy=>decide (y=s)) l).isSome=true:=by rw[cO,any_eq];exact BY h
theorem MG{l:List bF}{s:bF}(h:s ∉ l):(bR (λy=>decide (y=s)) l).isSome=false:=by rw[cO,any_eq];exact AS h
theorem Rs{l:List bF}{s:bF}(h:s ∉ l):(bR (λy=>decide (y=s)) l).isNone=true:=by rw[vQ,any_eq,AS h];rfl
theorem Rt{l:List bF}{s:bF}(h:s∈l):(bR (λy=>decide (y=s)) l).isNone=false:=by rw[vQ,any_eq,BY h];rfl
theorem aL{Y:Sg}{x:O}:(Y++[x])[Y.length]?=some x:=by simp
theorem bP{Y:Sg}{x y:O}:(Y++[x]).set Y.length y=Y++[y]:=by simp
theorem aI{Y:Sg}{x y:O}{i:Nat}(h:Y[i]?=some y):(Y++[x])[i]?=some y:=by rw[au (AI.1 h).1];exact h
theorem lU{Y:Sg}{w:V}{l:List bF}{k u:Nat}{cs:List V}(hb:Y[k]?=some (.cells u cs true))(hu:u≠9)(ow:aY aP 9 Y w l):aO w≠some k:=by
 rcases ow with⟨rfl,-⟩ | ⟨b,rs,ex,rfl,hc,-⟩
 ·intro e;cases e
 ·intro e;cases e;rw[hb]at hc;cases hc;exact hu rfl
theorem P5(h:bG E){x:aD}{a b c d w:V}{Y:Sg}{Ks:List bF}(ia:IS aP a x.ins)(ib:IS aP b x.outs)(hx:Small x)(hK:Ks.length<=14)(b0:Y[0]?=some (.cells 46 [.str x.name,a,b,c,d] true))(ow:aY aP 9 Y w Ks)(F:FT)(g1:F.get 1=.ref 0 0)(g3:F.get 3=w)
  (hk:K (.int .i64 (if (x.outs.all λo=>!decide (o∈x.ins)&&decide (o∈Ks))=true then 0 else 2)) Y):R E (cutAt [1,1,1,1] (aA cx).code) [] ⟨139,F⟩ Y (nV E (aA cx).results K):=by
 have a1:=hx.ins;have a2:=hx.outs;have lb:=bT h ib;have d23:=h.Uz;simp only[aA,cx,cutAt,ay]at d23;simp only[aA,cx,KP,↓reduceIte,ε,cutAt];refine aV (λi F σ1=>σ1=Y/\F.get 1=.ref 0 0/\F.get 3=w/\F.get 7=.int .i64 (i:Int)/\∀j y,j<i->x.outs[j]?=some y->y ∉ x.ins/\y∈Ks) x.outs.length ?_ ?_ x.outs.length 0 _ _ (by omega) ⟨rfl,(fK (by simp+decide only[GS,g1,g3,aj]) (λj y hj=>by omega))⟩
 ·rintro i F σ1 hi ⟨rfl,g1,g3,g7,hp⟩ next
  obtain⟨y,hy⟩:∃y,x.outs[i]?=some y:=⟨_,AT hi⟩;obtain⟨g,e1⟩:=g_ h ib hy;have hlt:=dR hi;have hadd:=bW i (by omega);have k1:=tJ (Z:=σ1) h (a:=a) (l:=x.ins) (s:=y) (ia.ls σ1 9) (by omega);have k2:=tJ (Z:=σ1) h (a:=w) (l:=Ks) (s:=y) ow.ls (by omega);rw[aF];by_cases h1:y∈x.ins
  ·have s1:=MF h1;rw[an (by rw[iL hy (by rw[BY h1];rfl)];simp)]at hk;simp only[KP,ι,↓reduceIte,δ,ε,reduceCtorEq,h.dJ,h.bB,h.bO,g1,g7,lb,hlt,b0,e1,k1,lW,s1,aX d23,bS];exact hk
  have s1:=MG h1;by_cases h2:y∈Ks
  ·have s2:=Rt h2;simp only[KP,ι,↓reduceIte,δ,ε,reduceCtorEq,h.dJ,h.bB,h.bO,g1,g3,g7,lb,hlt,b0,e1,k1,k2,lW,DL,s1,s2,hadd,aX d23,bS];refine next _ _ ⟨rfl,(fK (by simp+decide only[GS,g1,g3,aj]) (λj z hj hz=>?_))⟩
   rcases cr j i with g | g
   ·exact hp j z g hz
   ·obtain rfl:j=i:=by omega
    rw[hy]at hz;cases hz;exact⟨h1,h2⟩
  ·have s2:=Rs h2;rw[an (by rw[iL hy (by rw[AS h2];simp)];simp)]at hk;simp only[KP,ι,↓reduceIte,δ,ε,reduceCtorEq,h.dJ,h.bB,h.bO,g1,g3,g7,lb,hlt,b0,e1,k1,k2,lW,DL,s1,s2,aX d23,bS];exact hk
 ·rintro F σ1 ⟨rfl,g1,g3,g7,hp⟩;have hlt:=dW (bt x.outs.length);rw[aF]
  rw[az (Bk λj y _ hy=>by
   obtain⟨h1,h2⟩:=hp j y (AI.1 hy).1 hy;rw[AS h1,BY h2];rfl)]at hk
  simp only[KP,ι,↓reduceIte,δ,ε,reduceCtorEq,h.bB,h.bO,g1,g7,lb,hlt,b0];exact hk
def Pp(x:aD)(i:Nat)(s:am):Prop:=s.out ∉ x.ins++(x.steps.take i).map dt/\∀y∈s.args,y∈x.ins++(x.steps.take i).map dt
theorem uR:∀(l:List am)(known:List bF),iU known l=true ↔ ∀i s,l[i]?=some s->s.out ∉ known++(l.take i).map dt/\∀y∈s.args,y∈known++(l.take i).map dt
 | [],known=>by simp[iU]
 |s::l,known=>by
  rw[iU,ak,ak,uR l];simp only[gu,decide_eq_false_iff_not,eu,af];constructor
  ·rintro⟨⟨h1,h2⟩,h3⟩ i t ht;cases i with
   |zero=>cases ht;simpa using ⟨h1,h2⟩
   |succ i=>have:=h3 i t ht;simpa using this
  ·intro h0;refine⟨by simpa using h0 0 s rfl,λi t ht=>?_⟩;have:=h0 (i+1) t ht;simpa using this
theorem Ki(h:bG E){x:aD}{a b c d:V}(ia:IS aP a x.ins)(ib:IS aP b x.outs)(id:IS fB d x.steps)(hx:Small x)(F:FT)(g1:F.get 1=.ref 0 0)
  (hk:∀Y,K (.int .i64 (if iU x.ins x.steps=true/\(x.outs.all λo=>!decide (o∈x.ins)&&decide (o∈x.steps.map dt))=true then 0 else 2)) Y):R E (cutAt [1,1] (aA cx).code) [] ⟨139,F⟩ [.cells 46 [.str x.name,a,b,c,d] true] (nV E (aA cx).results K):=by
 have a1:=hx.ins;have a4:=hx.steps;have ld:=mE h id;have fin:=λY w b0 ow F g1 g3 hk=>P5 (K:=K) h ia ib hx (c:=c) (d:=d) (w:=w) (Y:=Y) (Ks:=x.steps.map dt) (by rw[bw];omega) b0 ow F g1 g3 hk;have d17:=h.UA;simp only[aA,cx,cutAt,ay]at d17;rw[show cutAt [1,1] (aA cx).code=.seq (cutAt [1,1,0] (aA cx).code) (.seq (cutAt [1,1,1,0] (aA cx).code) (cutAt [1,1,1,1] (aA cx).code)) from rfl];generalize cutAt [1,1,1,1] (aA cx).code=C at *;simp only[aA,cx,KP,↓reduceIte,ε,cutAt];refine aV (λi F Y=>Y[0]?=some (.cells 46 [.str x.name,a,b,c,d] true)/\F.get 1=.ref 0 0/\F.get 4=.int .i64 (i:Int)/\(∃w,F.get 3=w/\aY aP 9 Y w ((x.steps.take i).map dt))/\∀j s,j<i->x.steps[j]?=some s->Pp x j s) x.steps.length ?_ ?_ x.steps.length 0 _ _ (by omega) ⟨rfl,(mJ (by simp+decide only[GS,g1,aj]) ⟨⟨.aG,(by simp+decide only[GS]),.inl ⟨rfl,rfl⟩⟩,λj y hj=>by omega⟩)⟩
 ·rintro i F Y hi ⟨b0,g1,g4,⟨w,g3,ow⟩,hp⟩ next
  obtain⟨st,hst⟩:∃y,x.steps[i]?=some y:=⟨_,AT hi⟩;have hmem:=ag hst;have a5:=hx.args st hmem;obtain⟨g,p,q,e1,ip,iq⟩:=wT h id hst;have hop:=aQ ip.bE;have hoq:=aQ iq.bE;have hlt:=dR hi;have hadd:=bW i (by omega);have lp:=bT h ip;have hKl:((x.steps.take i).map dt).length<=14:=by rw[bw,bl];omega
  have bx:(Y++[ζ 82 [.str st.out,.int .i64 st.op,p,q,.int .i64 st.n] true])[Y.length]?=some (.cells 82 [.str st.out,.int .i64 st.op,p,q,.int .i64 st.n] true):=aL;have b1:=aI (x:=ζ 82 [.str st.out,.int .i64 st.op,p,q,.int .i64 st.n] true) b0;have o1:=ow.app [ζ 82 [.str st.out,.int .i64 st.op,p,q,.int .i64 st.n] true]
  have hbad:∀Y,¬ Pp x i st->K (.int .i64 2) Y:=λY hn=>by
   have:=hk Y
   rwa [an (λe=>hn ((uR _ _).1 e.1 i st hst))]at this
  have k1:=tJ (Z:=Y++[ζ 82 [.str st.out,.int .i64 st.op,p,q,.int .i64 st.n] true]) h (a:=a) (l:=x.ins) (s:=st.out) (ia.ls _ 9) (by omega);have k2:=tJ (Z:=Y++[ζ 82 [.str st.out,.int .i64 st.op,p,q,.int .i64 st.n] true]) h (a:=w) (l:=(x.steps.take i).map dt) (s:=st.out) o1.ls (by omega);rw[aF];by_cases h1:st.out∈x.ins
  ·have s1:=MF h1;simp only[KP,ι,Ξ,↓reduceIte,δ,ε,μ,reduceCtorEq,h.dJ,h.bB,h.gA,h.bO,h.dF,g1,g4,ld,hlt,b0,e1,hop,hoq,aL,bP,b1,bx,k1,lW,s1];exact hbad _ λe=>e.1 (List.mem_append_left _ h1)
  have s1:=MG h1;by_cases h2:st.out∈(x.steps.take i).map dt
  ·have s2:=MF h2;simp only[KP,ι,Ξ,↓reduceIte,δ,ε,μ,reduceCtorEq,h.dJ,h.bB,h.gA,h.bO,h.dF,g1,g3,g4,ld,hlt,b0,e1,hop,hoq,aL,bP,b1,bx,k1,k2,lW,s1,s2];exact hbad _ λe=>e.1 (jy _ h2)
  have s2:=MG h2;simp only[KP,ι,Ξ,↓reduceIte,δ,ε,μ,reduceCtorEq,h.dJ,h.bB,h.gA,h.bO,h.dF,g1,g3,g4,ld,hlt,b0,e1,hop,hoq,aL,bP,b1,bx,k1,k2,lW,s1,s2];generalize hτ:Y++[ζ 82 [.str st.out,.int .i64 st.op,p,q,.int .i64 st.n] true]=τ1 at *;generalize Y.length=nx at *;refine aV (λk F σ1=>σ1=τ1/\F.get 1=.ref 0 0/\F.get 3=w/\F.get 4=.int .i64 (i:Int)/\F.get 5=.ref nx 0/\F.get 6=.int .i64 (k:Int)/\∀j y,j<k->st.args[j]?=some y->y∈x.ins++(x.steps.take i).map dt) st.args.length ?_ ?_ st.args.length 0 _ _ (by omega) ⟨rfl,(kA (by simp+decide only[GS,g1,g3,g4,aj]) (λj y hj=>by omega))⟩
  ·rintro k F σ1 hk2 ⟨rfl,g1,g3,g4,g5,g6,hq⟩ next2;obtain⟨y,hy⟩:∃y,st.args[k]?=some y:=⟨_,AT hk2⟩;obtain⟨g,e2⟩:=g_ h ip hy;have hlt2:=dR hk2;have hadd2:=bW k (by omega);have k3:=tJ (Z:=σ1) h (a:=a) (l:=x.ins) (s:=y) (ia.ls _ 9) (by omega);have k4:=tJ (Z:=σ1) h (a:=w) (l:=(x.steps.take i).map dt) (s:=y) o1.ls (by omega);rw[aF];by_cases h3:y∈x.ins
   ·have s3:=Rt h3;simp only[KP,ι,↓reduceIte,δ,ε,reduceCtorEq,h.dJ,h.bB,h.bO,h.dF,g1,g5,g6,lp,hlt2,b1,bx,e2,k3,DL,s3,hadd2,aX d17,bS];refine next2 _ _ ⟨rfl,(kA (by simp+decide only[GS,g1,g3,g4,g5,aj]) (λj z hj hz=>?_))⟩;rcases cr j k with g | g
    ·exact hq j z g hz
    ·obtain rfl:j=k:=by omega
     rw[hy]at hz;cases hz;exact List.mem_append_left _ h3
   have s3:=Rs h3;by_cases h4:y∈(x.steps.take i).map dt
   ·have s4:=Rt h4;simp only[KP,ι,↓reduceIte,δ,ε,reduceCtorEq,h.dJ,h.bB,h.bO,h.dF,g1,g3,g5,g6,lp,hlt2,b1,bx,e2,k3,k4,DL,s3,s4,hadd2,aX d17,bS];refine next2 _ _ ⟨rfl,(kA (by simp+decide only[GS,g1,g3,g4,g5,aj]) (λj z hj hz=>?_))⟩;rcases cr j k with g | g
    ·exact hq j z g hz
    ·obtain rfl:j=k:=by omega
     rw[hy]at hz;cases hz;exact jy _ h4
   ·have s4:=Rs h4;simp only[KP,ι,↓reduceIte,δ,ε,reduceCtorEq,h.dJ,h.bB,h.bO,h.dF,g1,g3,g5,g6,lp,hlt2,b1,bx,e2,k3,k4,DL,s3,s4,aX d17,bS];exact hbad _ λe=>(cq.1 (e.2 y (ag hy))).elim h3 h4
  ·rintro F σ1 ⟨rfl,g1,g3,g4,g5,g6,hq⟩;have hlt2:=dW (bt st.args.length);obtain⟨w2,τ2,ha2,o2,k2',n2⟩:=Hx (s:=st.out) (ex:=true) h o1 (by omega);rw[aF];simp only[KP,ι,↓reduceIte,δ,ε,ω,ap,reduceCtorEq,h.dJ,h.bB,h.dF,g3,g4,g5,g6,lp,hlt2,bx,lM,ha2,hadd];have b2:τ2[0]?=some (.cells 46 [.str x.name,a,b,c,d] true):=k2' 0 _ (aI b1) (lU b1 (by decide) o1);refine next _ _ ⟨b2,(mJ (by simp+decide only[GS,g1,aj]) ⟨⟨w2,(by simp+decide only[GS]),?_⟩,λj s hj hs=>?_⟩)⟩
   ·have e:(x.steps.take (i+1)).map dt=(x.steps.take i).map dt++[st.out]:=by rw[dz,hst];simp
    rw[e];exact o2
   ·rcases cr j i with g | g
    ·exact hp j s g hs
    ·obtain rfl:j=i:=by omega
     rw[hst]at hs;cases hs
     exact⟨λe=>(cq.1 e).elim h1 h2,λy hy=>by
      obtain⟨n,hn,e⟩:=fm hy;exact hq n y hn (by rw[AT hn,e])⟩
 ·rintro F Y ⟨b0,g1,g4,⟨w,g3,ow⟩,hp⟩;have hlt:=dW (bt x.steps.length);rw[ah (OF _)]at ow;have hst:iU x.ins x.steps=true:=(uR _ _).2 λi s hs=>hp i s (AI.1 hs).1 hs;have hk:=hk Y;rw[hst]at hk;simp only[true_and]at hk;rw[aF];simp only[KP,ι,↓reduceIte,δ,ε,reduceCtorEq,h.gA,h.bO,g1,g4,ld,hlt,b0];exact fin Y w b0 ow _ (by simp+decide only[GS,g1]) (by simp+decide only[GS,g3]) hk
theorem Qq(x:aD):fN x=(!lH x.ins&&(!lH x.outs&&(!lH x.after&&(!decide (x.name∈x.after)&&(iU x.ins x.steps&&x.outs.all λo=>!decide (o∈x.ins)&&decide (o∈x.steps.map dt)))))):=by
 unfold fN;rw[ec];simp only[ak,eu,af,gu,decide_eq_false_iff_not,cq];constructor
 ·rintro⟨⟨⟨⟨⟨⟨h1,h2⟩,h3⟩,h4⟩,h5⟩,h6⟩,h7⟩;exact⟨h1,h2,h3,h4,h6,λo ho=>⟨h5 o ho,(h7 o ho).resolve_left (h5 o ho)⟩⟩
 ·rintro⟨h1,h2,h3,h4,h6,h7⟩;exact⟨⟨⟨⟨⟨⟨h1,h2⟩,h3⟩,h4⟩,λo ho=>(h7 o ho).1⟩,h6⟩,λo ho=>.inr (h7 o ho).2⟩
theorem OC(h:bG E){v:V}{x:aD}(hv:JC v x)(hx:Small x):aB E 111 [v] Z K=K (.int .i64 (bD x)) Z:=by
 refine aB.of ?_;have ev:=hv.snap (E:=E) Z;obtain⟨a,b,c,d,rfl,ia,ib,ic,id⟩:=hv;have a1:=hx.ins;have a2:=hx.outs;have a3:=hx.after;have a4:=hx.steps;rw[aH h.abU h.Zk h.acS h.aaT (args':=[.agg [.str x.name,a,b,c,d]]) (by simp only[aW,ev]),aU (by kernel_rfl)];have ha:=aQ ia.bE;have hb:=aQ ib.bE;have hc:=aQ ic.bE;have hd:=aQ id.bE;have la:=bT h ia;have lb:=bT h ib;have lc:=bT h ic;have ld:=mE h id;have kf:=λ(Y:Sg)=>Xf (Z:=Y) h (v:=.agg [.str x.name,a,b,c,d]) (x:=x) ⟨a,b,c,d,rfl,ia,ib,ic,id⟩ hx
 have key:=λF g1 hk=>Ki (K:=λv σ1=>match cQ σ1 E.ty false v with
    |some v=>v=.int .i64 (bD x)
    |none=>False) h ia ib id hx (c:=c) F g1 hk
 rw[show (aA cx).code=.seq (cutAt [0] (aA cx).code) (.seq (cutAt [1,0] (aA cx).code) (cutAt [1,1] (aA cx).code)) from rfl];generalize cutAt [1,1] (aA cx).code=C at *;by_cases f:lE x=true
 case neg=>
  have f:lE x=false:=by simpa using f
  rw[show bD x=1 from az f];simp only[aA,cx,KP,ι,↓reduceIte,δ,ε,μ,h.bO,cutAt,ha,hb,hc,hd,kf,f];exact rfl
 have r1:bD x=if long x=true then 4 else if fN x=false then 2 else 0:=an (by simp[f]);have q1:decide ((8:Int)<(x.ins.length:Int))=decide (8<x.ins.length):=by rw[ec];simp only[af];omega
 have q2:decide ((4:Int)<(x.outs.length:Int))=decide (4<x.outs.length):=by rw[ec];simp only[af];omega
 have q3:decide ((8:Int)<(x.after.length:Int))=decide (8<x.after.length):=by rw[ec];simp only[af];omega
 have q4:decide ((12:Int)<(x.steps.length:Int))=decide (12<x.steps.length):=by rw[ec];simp only[af];omega
 by_cases hl:long x=true
 ·rw[r1,az hl];unfold long at hl;cases l1:decide (8<x.ins.length) with
  |true=>
   simp only[aA,cx,KP,ι,↓reduceIte,δ,ε,μ,reduceCtorEq,h.bB,h.bO,cutAt,ha,hb,hc,hd,kf,f,la,q1,l1];exact rfl
  |false=>
   cases l2:decide (4<x.outs.length) with
   |true=>
    simp only[aA,cx,KP,ι,↓reduceIte,δ,ε,μ,reduceCtorEq,h.bB,h.bO,cutAt,ha,hb,hc,hd,kf,f,la,lb,q1,q2,l1,l2];exact rfl
   |false=>
    cases l3:decide (8<x.after.length) with
    |true=>
     simp only[aA,cx,KP,ι,↓reduceIte,δ,ε,μ,reduceCtorEq,h.bB,h.bO,cutAt,ha,hb,hc,hd,kf,f,la,lb,lc,q1,q2,q3,l1,l2,l3];exact rfl
    |false=>
     have l4:decide (12<x.steps.length)=true:=by rw[l1,l2,l3]at hl;simpa using hl
     simp only[aA,cx,KP,ι,↓reduceIte,δ,ε,μ,reduceCtorEq,h.bB,h.gA,h.bO,cutAt,ha,hb,hc,hd,kf,f,la,lb,lc,ld,q1,q2,q3,q4,l1,l2,l3,l4];exact rfl
 rw[an hl,Qq]at r1;have hl:long x=false:=by simpa using hl
 unfold long at hl;simp only[Bool.or_eq_false_iff]at hl;obtain⟨⟨⟨l1,l2⟩,l3⟩,l4⟩:=hl;have t1:=λ(Y:Sg)=>G6 (Z:=Y) h (a:=a) (l:=x.ins) (ia.ls Y 9) (by omega);have t2:=λ(Y:Sg)=>G6 (Z:=Y) h (a:=b) (l:=x.outs) (ib.ls Y 9) (by omega);have t3:=λ(Y:Sg)=>G6 (Z:=Y) h (a:=c) (l:=x.after) (ic.ls Y 9) (by omega);have t4:=λ(Y:Sg)=>tJ (Z:=Y) h (a:=c) (l:=x.after) (s:=x.name) (ic.ls Y 9) (by omega);cases w1:lH x.ins with
 |true=>
  rw[show bD x=2 from by rw[r1,w1];rfl];simp only[aA,cx,KP,ι,↓reduceIte,δ,ε,μ,reduceCtorEq,h.bB,h.gA,h.bO,cutAt,ha,hb,hc,hd,kf,f,la,lb,lc,ld,q1,q2,q3,q4,l1,l2,l3,l4,t1,w1];exact rfl
 |false=>
 cases w2:lH x.outs with
 |true=>
  rw[show bD x=2 from by rw[r1,w1,w2];rfl];simp only[aA,cx,KP,ι,↓reduceIte,δ,ε,μ,reduceCtorEq,h.bB,h.gA,h.bO,cutAt,ha,hb,hc,hd,kf,f,la,lb,lc,ld,q1,q2,q3,q4,l1,l2,l3,l4,t1,w1,t2,w2];exact rfl
 |false=>
 cases w3:lH x.after with
 |true=>
  rw[show bD x=2 from by rw[r1,w1,w2,w3];rfl];simp only[aA,cx,KP,ι,↓reduceIte,δ,ε,μ,reduceCtorEq,h.bB,h.gA,h.bO,cutAt,ha,hb,hc,hd,kf,f,la,lb,lc,ld,q1,q2,q3,q4,l1,l2,l3,l4,t1,w1,t2,w2,t3,w3];exact rfl
 |false=>
 by_cases w4:x.name∈x.after
 ·have s4:=MF w4;rw[show bD x=2 from by rw[r1,w1,w2,w3,BY w4];rfl];simp only[aA,cx,KP,ι,↓reduceIte,δ,ε,μ,reduceCtorEq,h.dJ,h.bB,h.gA,h.bO,cutAt,ha,hb,hc,hd,kf,f,la,lb,lc,ld,q1,q2,q3,q4,l1,l2,l3,l4,t1,w1,t2,w2,t3,w3,t4,lW,s4];exact rfl
 ·have s4:=MG w4;rw[w1,w2,w3,AS w4]at r1;simp only[aA,cx,KP,ι,↓reduceIte,δ,ε,μ,reduceCtorEq,h.dJ,h.bB,h.gA,h.bO,cutAt,ha,hb,hc,hd,kf,f,la,lb,lc,ld,q1,q2,q3,q4,l1,l2,l3,l4,t1,w1,t2,w2,t3,w3,t4,lW,s4];refine key _ (by simp+decide only[GS]) λY=>?_;show V.int .i64 _=V.int .i64 (bD x);rw[r1];refine b8 _ ?_;by_cases e:iU x.ins x.steps=true/\(x.outs.all λo=>!decide (o∈x.ins)&&decide (o∈x.steps.map dt))=true
  ·rw[az e,e.1,e.2];rfl
  ·rw[an e,az];simp only[mg,jd];cases u1:iU x.ins x.steps with
   |false=>rfl
   |true=>
    cases u2:(x.outs.all λo=>!decide (o∈x.ins)&&decide (o∈x.steps.map dt)) with
    |false=>rfl
    |true=>exact absurd ⟨u1,u2⟩ e
theorem N0(h:bG E){v:V}{x:aD}(hv:JC v x)(hx:Small x):KC E 111 [v] Z (.int .i64 (bD x)) Z:=dX λ_=>OC h hv hx
end
end
end Go.Proofs.YtmbikbgdbbcbmaaGreatDoor
end
