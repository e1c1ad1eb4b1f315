/- Part 15 of the proof. -/
import Derived.Test.YtmhchflckonklaaGreatDoorY
import Derived.Test.YtmhchflckonklaaGreatDoorZ14
import Derived.Test.YtmhchflckonklaaGreatDoorZ3
set_option maxHeartbeats 8000000
set_option linter.unusedVariables false
set_option maxRecDepth 10000
open Nat (reduceLT reduceAdd reduceEqDiff reduceLeDiff reduceMul)
open List (take_nil)
open Int (reduceNeg reduceEq)
section
namespace Go.Ax
open Go
section
theorem TQ:((0:Nat):Int)=0:=rfl
theorem Ua:(0:Int).toNat=0:=rfl
theorem VQ:(false==true)=false:=rfl
theorem VP:(true==false)=false:=rfl
inductive gT where
 |k (c:Code) | blk (id:Nat) | lp (c:Code)
def M (E:Env):List gT->X->Fr->Sg->(X->Fr->Sg->Prop)->Prop
 | [],x,fr,Z,Q=>Q x fr Z
 | .k c::s,.normal,fr,Z,Q=>Wp E c fr Z λx fr Z=>M E s x fr Z Q
 | .k _::s,x,fr,Z,Q=>M E s x fr Z Q
 | .blk id::s,.exit i,fr,Z,Q=>if i=id then M E s .normal fr Z Q else M E s (.exit i) fr Z Q
 | .blk _::s,x,fr,Z,Q=>M E s x fr Z Q
 | .lp c::s,.normal,fr,Z,Q=>Wp E (.loop c) fr Z λx fr Z=>M E s x fr Z Q
 | .lp _::s,x,fr,Z,Q=>M E s x fr Z Q
def R (E:Env) (c:Code) (s:List gT) (fr:Fr) (Z:Sg) (Q:X->Fr->Sg->Prop):Prop:=Wp E c fr Z λx fr Z=>M E s x fr Z Q
def dP (E:Env) (ops:Array Oper) (l:List Oper) (st:Option (Fr × Sg)) (s:List gT) (Q:X->Fr->Sg->Prop):Prop:=match st with
 |some (fr,Z)=>tO E ops l fr Z λfr Z=>M E s .normal fr Z Q
 |none=>False
def wS (dst:Option Nat) (fr:Fr) (o:Option (V × Sg)):Option (Fr × Sg):=match o with
 |some (v,Z)=>some (eK fr dst v,Z)
 |none=>none
def Bn (E:Env) (f:Nat) (args:List V) (Z:Sg) (dst:Option Nat) (fr:Fr) (ops:Array Oper) (l:List Oper) (s:List gT) (Q:X->Fr->Sg->Prop):Prop:=aB E f args Z λv Z=>dP E ops l (some (eK fr dst v,Z)) s Q
section
variable {E:Env}{s:List gT}{fr:Fr}{Z:Sg}{Q:X->Fr->Sg->Prop}
theorem Y0 {x:X}:M E [] x fr Z Q=Q x fr Z:=rfl
theorem EU {c:Code}:M E (.k c::s) .normal fr Z Q=R E c s fr Z Q:=rfl
theorem Ph {c:Code}{i:Nat}:M E (.k c::s) (.exit i) fr Z Q=M E s (.exit i) fr Z Q:=rfl
theorem RQ {c:Code}:M E (.k c::s) .ret fr Z Q=M E s .ret fr Z Q:=rfl
theorem Y1 {id:Nat}:M E (.blk id::s) .normal fr Z Q=M E s .normal fr Z Q:=rfl
theorem JH {id i:Nat}:M E (.blk id::s) (.exit i) fr Z Q=if i=id then M E s .normal fr Z Q else M E s (.exit i) fr Z Q:=rfl
theorem MG {id:Nat}:M E (.blk id::s) .ret fr Z Q=M E s .ret fr Z Q:=rfl
theorem m_lp {c:Code}:M E (.lp c::s) .normal fr Z Q=R E (.loop c) s fr Z Q:=rfl
theorem MF {c:Code}{i:Nat}:M E (.lp c::s) (.exit i) fr Z Q=M E s (.exit i) fr Z Q:=rfl
theorem Pg {c:Code}:M E (.lp c::s) .ret fr Z Q=M E s .ret fr Z Q:=rfl
theorem UM:R E .skip s fr Z Q=M E s .normal fr Z Q:=wp_skip
theorem UN {i:Nat}:R E (.exit i) s fr Z Q=M E s (.exit i) fr Z Q:=wp_exit
theorem XL:R E .ret s fr Z Q=M E s .ret fr Z Q:=wp_ret
theorem XK {a b:Code}:R E (.seq a b) s fr Z Q=R E a (.k b::s) fr Z Q:=by
 unfold R
 rw[wp_seq]
 congr 1
 funext x fr Z
 cases x <;> rfl
theorem RD {id:Nat}{c:Code}:R E (.block id c) s fr Z Q=R E c (.blk id::s) fr Z Q:=by
 unfold R
 rw[wp_block]
 congr 1
 funext x fr Z
 cases x <;> rfl
theorem aC {c:Code}:R E (.loop c) s fr Z Q=R E c (.lp c::s) fr Z Q:=by
 unfold R
 rw[wp_loop]
 congr 1
 funext x fr Z
 cases x <;> rfl
def J2 (o:Option V):Option Bool:=match o with
 |some (.bool b)=>some b
 |_=>none
theorem Iu {b:Bool}:J2 (some (.bool b))=some b:=rfl
theorem UO {c:Operand}{t e:Code}:R E (.cond c t e) s fr Z Q=if J2 (aX fr c)=some true then R E t s fr Z Q else if J2 (aX fr c)=some false then R E e s fr Z Q else False:=by
 unfold R
 rw[wp_cond]
 cases aX fr c with
 |none=>rfl
 |some v=>
  cases v with
  |bool b=>cases b <;> rfl
  |_=>rfl
theorem XM {id:Nat}{l:List Oper}:R E (.region id l.toArray false) s fr Z Q=dP E l.toArray l (some (fr,Z)) s Q:=ND
theorem aK {c:Code}(h:aO E c=true):R E c s fr Z Q=R E (bB c) s fr Z Q:=LX h
variable {ops:Array Oper}{l:List Oper}{dst:Option Nat}{ty:Nat}{pos:String}{after:Array Edge}
theorem Vd:dP E ops l none s Q=False:=rfl
theorem Y7:dP E ops [] (some (fr,Z)) s Q=M E s .normal fr Z Q:=LY
theorem R8 {op:Op}{j:Nat}{w:Bool}:dP E ops (⟨dst,op,ty,pos,after,some (j,w)⟩::l) (some (fr,Z)) s Q=if yielded ops fr j=some w then dP E ops (⟨dst,op,ty,pos,after,none⟩::l) (some (fr,Z)) s Q else dP E ops l (some (eK fr dst .undef,Z)) s Q:=by
 show tO E ops (⟨dst,op,ty,pos,after,some (j,w)⟩::l) fr Z _=_
 rw[wpOps_cons]
 by_cases h:yielded ops fr j=some w
 ·rw[bf h,bf (by show (yielded ops fr j==some w)=true;rw[h];simp)]
  exact B6.symm
 ·rw[az h,az]
  ·rfl
  ·intro g
   have g:(yielded ops fr j==some w)=true:=g
   exact h (by simpa using g)
theorem mQ {op:Op}{o:Option (V × Sg)}(h:∀K,kM E op fr Z K=(match o with
  |some (v,Z)=>K v Z
  |none=>False)):dP E ops (⟨dst,op,ty,pos,after,none⟩::l) (some (fr,Z)) s Q=dP E ops l (wS dst fr o) s Q:=by
 show tO E ops (⟨dst,op,ty,pos,after,none⟩::l) fr Z _=_
 rw[B6,h]
 cases o with
 |none=>rfl
 |some y=>rfl
theorem Vf {x:Operand}:dP E ops (⟨dst,.move x,ty,pos,after,none⟩::l) (some (fr,Z)) s Q=dP E ops l (wS dst fr ((aX fr x).map (·,Z))) s Q:=mQ λ_=>L5
theorem PE {x:Operand}:dP E ops (⟨dst,.assign x,ty,pos,after,none⟩::l) (some (fr,Z)) s Q=dP E ops l (wS dst fr ((aX fr x).map (·,Z))) s Q:=mQ λ_=>GI
theorem Vc {c a b:Operand}:dP E ops (⟨dst,.pick c a b,ty,pos,after,none⟩::l) (some (fr,Z)) s Q=dP E ops l (wS dst fr (jX E fr Z c a b)) s Q:=mQ λ_=>L0
theorem Sf {e:Nat}:dP E ops (⟨dst,.alloc e,ty,pos,after,none⟩::l) (some (fr,Z)) s Q=dP E ops l (wS dst fr (sE E fr Z e)) s Q:=mQ λ_=>I9
theorem Y8 {e:Nat}{x:Operand}:dP E ops (⟨dst,.box e x,ty,pos,after,none⟩::l) (some (fr,Z)) s Q=dP E ops l (wS dst fr (Hx E fr Z e x)) s Q:=mQ λ_=>NF
theorem Sb {t:Nat}{parts:Array (Nat × Operand)}:dP E ops (⟨dst,.build t parts,ty,pos,after,none⟩::l) (some (fr,Z)) s Q=dP E ops l (wS dst fr (qP E fr Z t parts)) s Q:=mQ λ_=>I7
theorem Ge {t len:Nat}{parts:Array (Nat × Operand)}:dP E ops (⟨dst,.buildSlice t len parts,ty,pos,after,none⟩::l) (some (fr,Z)) s Q=dP E ops l (wS dst fr (fS E fr Z t len parts)) s Q:=mQ λ_=>Bo
theorem Vg {t:Nat}{a:Operand}:dP E ops (⟨dst,.load t a,ty,pos,after,none⟩::l) (some (fr,Z)) s Q=dP E ops l (wS dst fr (iN E fr Z t a)) s Q:=mQ λ_=>L6
theorem R3 {t:Nat}{a x:Operand}:dP E ops (⟨dst,.store t a x,ty,pos,after,none⟩::l) (some (fr,Z)) s Q=dP E ops l (wS dst fr (jW E fr Z t a x)) s Q:=mQ λ_=>I2
theorem JP {x:Operand}:dP E ops (⟨dst,.nilCheck x,ty,pos,after,none⟩::l) (some (fr,Z)) s Q=dP E ops l (wS dst fr (jI E fr Z x)) s Q:=mQ λ_=>DT
theorem Se {op:BinOp}{t:Nat}{x y:Operand}{u:Nat}:dP E ops (⟨dst,.binOp op t x y u,ty,pos,after,none⟩::l) (some (fr,Z)) s Q=dP E ops l (wS dst fr (fB E fr Z op t x y)) s Q:=mQ λ_=>I8
theorem Va {op:UnOp}{t:Nat}{x:Operand}:dP E ops (⟨dst,.unOp op t x,ty,pos,after,none⟩::l) (some (fr,Z)) s Q=dP E ops l (wS dst fr (oF E fr Z op x)) s Q:=mQ λ_=>LZ
theorem MP {u d:Nat}{x:Operand}:dP E ops (⟨dst,.convert u d x,ty,pos,after,none⟩::l) (some (fr,Z)) s Q=dP E ops l (wS dst fr (mD E fr Z u d x)) s Q:=mQ λ_=>Fx
theorem R5 {t:Nat}{x:Operand}:dP E ops (⟨dst,.range t x,ty,pos,after,none⟩::l) (some (fr,Z)) s Q=dP E ops l (wS dst fr (pL E fr Z t x)) s Q:=mQ λ_=>I4
theorem Bv {t:Nat}{x:Operand}:dP E ops (⟨dst,.makeInterface t x,ty,pos,after,none⟩::l) (some (fr,Z)) s Q=dP E ops l (wS dst fr (eE E fr Z t x)) s Q:=mQ λ_=>wH
theorem MN {t:Nat}{r:Option Operand}:dP E ops (⟨dst,.makeMap t r,ty,pos,after,none⟩::l) (some (fr,Z)) s Q=dP E ops l (wS dst fr (mC E fr Z t r)) s Q:=mQ λ_=>Fv
theorem HR {t:Nat}{a c:Operand}:dP E ops (⟨dst,.makeSlice t a c,ty,pos,after,none⟩::l) (some (fr,Z)) s Q=dP E ops l (wS dst fr (jY E fr Z t a c)) s Q:=mQ λ_=>B8
theorem R4 {t:Nat}{x:Operand}{lo hi mx:Option Operand}:dP E ops (⟨dst,.slice t x lo hi mx,ty,pos,after,none⟩::l) (some (fr,Z)) s Q=dP E ops l (wS dst fr (sD E fr Z t x lo hi mx)) s Q:=mQ λ_=>I3
theorem HT {t:Nat}{x:Operand}{f:Nat}:dP E ops (⟨dst,.fieldAddr t x f,ty,pos,after,none⟩::l) (some (fr,Z)) s Q=dP E ops l (wS dst fr (iJ E fr Z t x f)) s Q:=mQ λ_=>B_
theorem Sa {t:Nat}{x:Operand}{f:Nat}:dP E ops (⟨dst,.field t x f,ty,pos,after,none⟩::l) (some (fr,Z)) s Q=dP E ops l (wS dst fr (qO E fr Z t x f)) s Q:=mQ λ_=>I6
theorem HS {t:Nat}{x i:Operand}:dP E ops (⟨dst,.indexAddr t x i,ty,pos,after,none⟩::l) (some (fr,Z)) s Q=dP E ops l (wS dst fr (cB E fr Z t x i)) s Q:=mQ λ_=>B9
theorem R7 {t:Nat}{x i:Operand}:dP E ops (⟨dst,.index t x i,ty,pos,after,none⟩::l) (some (fr,Z)) s Q=dP E ops l (wS dst fr (qN E fr Z t x i)) s Q:=mQ λ_=>I5
theorem PC {t:Nat}{x k:Operand}{ok:Bool}:dP E ops (⟨dst,.lookup t x k ok,ty,pos,after,none⟩::l) (some (fr,Z)) s Q=dP E ops l (wS dst fr (d_ E fr Z t x k ok)) s Q:=mQ λ_=>GH
theorem HQ {t:Nat}{m k x:Operand}:dP E ops (⟨dst,.mapUpdate t m k x,ty,pos,after,none⟩::l) (some (fr,Z)) s Q=dP E ops l (wS dst fr (dW E fr Z t m k x)) s Q:=mQ λ_=>B7
theorem MO {t:Operand}{i:Nat}:dP E ops (⟨dst,.extract t i,ty,pos,after,none⟩::l) (some (fr,Z)) s Q=dP E ops l (wS dst fr (cR E fr Z t i)) s Q:=mQ λ_=>Fw
theorem Ve {x:Operand}:dP E ops (⟨dst,.next x true,ty,pos,after,none⟩::l) (some (fr,Z)) s Q=dP E ops l (wS dst fr (vZ E fr Z x)) s Q:=mQ λ_=>L2
theorem JQ {f:Nat}{a b:Array Operand}:dP E ops (⟨dst,.makeFunc (.func f) a b,ty,pos,after,none⟩::l) (some (fr,Z)) s Q=dP E ops l (wS dst fr (jJ E fr Z f a b)) s Q:=mQ λ_=>DU
theorem MQ {b:Builtin}{args:Array Operand}{ats:Array Nat}:dP E ops (⟨dst,.call { callee:=.builtin b,args:=args,argTypes:=ats },ty,pos,after,none⟩::l) (some (fr,Z)) s Q=dP E ops l (wS dst fr (eP E fr Z b args ats)) s Q:=mQ λ_=>Fy
theorem Vi {f:Operand}{args:List Operand}{ats:Array Nat}:dP E ops (⟨dst,.call { callee:=.value f,args:=args.toArray,argTypes:=ats },ty,pos,after,none⟩::l) (some (fr,Z)) s Q=match aX fr f,fD fr args with
  |some (.fn k first cap),some l'=>Bn E k (first++l'++cap) Z dst fr ops l s Q
  |_,_=>False:=by
 show tO E ops (⟨dst,.call { callee:=.value f,args:=args.toArray,argTypes:=ats },ty,pos,after,none⟩::l) fr Z _=_
 rw[B6,L7]
 rfl
theorem Ir {f:Nat}{args:List V}{v:V}{σ':Sg}(h:∀K,aB E f args Z K=K v σ'):Bn E f args Z dst fr ops l s Q=dP E ops l (some (eK fr dst v,σ')) s Q:=h _
abbrev KC (E:Env) (f:Nat) (args:List V) (Z:Sg) (v:V) (σ':Sg):Prop:=∀(dst:Option Nat) (fr:Fr) (ops:Array Oper) (l:List Oper) (s:List gT) (Q:X->Fr->Sg->Prop),Bn E f args Z dst fr ops l s Q=dP E ops l (some (eK fr dst v,σ')) s Q
theorem cU {f:Nat}{args:List V}{v:V}{σ':Sg}(h:∀K,aB E f args Z K=K v σ'):KC E f args Z v σ':=λ_ _ _ _ _ _=>h _
theorem aP {f:Nat}{args:List V}{P:V->Sg->Prop}(h:aB E f args Z P)(hp:∀v σ',P v σ'->dP E ops l (some (eK fr dst v,σ')) s Q):Bn E f args Z dst fr ops l s Q:=h.mono hp
end
theorem fO {E:Env}{s:List gT}{fr fr':Fr}{Z σ':Sg}{Q:X->Fr->Sg->Prop}{id n:Nat}{ops:Array Oper}(h:bW E (ev E n) ops fr Z=some (fr',σ')):R E (.region id ops true) s fr Z Q=M E s .normal fr' σ' Q:=by
 unfold R
 rw[Kk]
 refine propext ⟨λ⟨m,fr1,σ1,h1,hq⟩=>?_,λhq=>⟨n,fr',σ',h,hq⟩⟩
 have a:=uO (mJ E (Nat.le_max_left n m)) h
 rw[uO (mJ E (Nat.le_max_right n m)) h1]at a
 cases a
 exact hq
def mS (E:Env) (rs:List ResultVar) (K:V->Sg->Prop) (x:X) (fr:Fr) (Z:Sg):Prop:=match x with
 | .exit _=>False
 |_=>FN E rs K fr Z
theorem SL {E:Env}{rs:List ResultVar}{K:V->Sg->Prop}{fr:Fr}{Z:Sg}:mS E rs K .ret fr Z=FN E rs K fr Z:=rfl
theorem JY {E:Env}{rs:List ResultVar}{K:V->Sg->Prop}{fr:Fr}{Z:Sg}:mS E rs K .normal fr Z=FN E rs K fr Z:=rfl
theorem Vw {E:Env}{F:Fn}{args:List V}{Z:Sg}{K:V->Sg->Prop}{fr:Fr}(h:Fr.init F.ntmps args=some fr):nN E F args Z K=R E F.code [] fr Z (mS E F.results K):=by
 unfold nN
 rw[h]
 show Wp E F.code fr Z _=Wp E F.code fr Z _
 congr 1
theorem ZZ {F:FT}{u:Nat}{v:V}:(FT.set F u v).get u=v:=by rw[FT.eB,bf rfl]
theorem ZY {F:FT}{t u:Nat}{v:V}(h:t≠u):(FT.set F u v).get t=F.get t:=by rw[FT.eB,az h]
def FT.fill (F:FT) (i:Nat):List V->FT
 | []=>F
 |v::r=>FT.fill (FT.set F i v) (i+1) r
theorem aaK {F:FT}{i:Nat}:FT.fill F i []=F:=rfl
theorem aaJ {F:FT}{i:Nat}{v:V}{r:List V}:FT.fill F i (v::r)=FT.fill (FT.set F i v) (i+1) r:=rfl
abbrev GS:=And.intro @ZZ (And.intro @ZY (And.intro @aaK (And.intro @aaJ @TQ)))
theorem fill_eq {n:Nat}:∀(l:List V) (F:FT) (i:Nat),i+l.length<=n->Fr.fill ⟨n,F⟩ i l=⟨n,FT.fill F i l⟩
 | [],_,_,_=>rfl
 |v::l,F,i,h=>by
  simp only[af]at h
  rw[Fr.fill,Fr.ON,bf (by omega),fill_eq l _ _ (by omega)]
  rfl
theorem aY {E:Env}{F:Fn}{args:List V}{Z:Sg}{K:V->Sg->Prop}(h:Nat.ble args.length F.ntmps=true):nN E F args Z K=R E F.code [] ⟨F.ntmps,FT.fill .leaf 0 args⟩ Z (mS E F.results K):=by
 refine Vw ?_
 unfold Fr.init
 rw[h]
 dsimp only
 rw[fill_eq _ _ _ (by rw[dj];exact jw h)]
end
end Go.Ax
end
section
namespace Go.Proofs.YtmhchflckonklaaGreatDoor
open Go Go.Ax
abbrev KP:=(And.intro (And.intro (And.intro (And.intro (And.intro (And.intro (And.intro (And.intro @TQ @Ua) (And.intro @VQ @VP)) (And.intro (And.intro @Y0 @EU) (And.intro @Ph @RQ))) (And.intro (And.intro (And.intro @Y1 @JH) (And.intro @MG @m_lp)) (And.intro (And.intro @MF @Pg) (And.intro @UM @UN)))) (And.intro (And.intro (And.intro (And.intro @XL @XK) (And.intro @RD @UO)) (And.intro (And.intro @XM @Iu) (And.intro @SL @JY))) (And.intro (And.intro (And.intro @Vf @PE) (And.intro @Vc @Sf)) (And.intro (And.intro @Y8 @Sb) (And.intro @Ge @Vg))))) (And.intro (And.intro (And.intro (And.intro (And.intro @R3 @JP) (And.intro @Se @Va)) (And.intro (And.intro @MP @R5) (And.intro @Ve @Bv))) (And.intro (And.intro (And.intro @JQ @MN) (And.intro @HR @R4)) (And.intro (And.intro @HT @Sa) (And.intro @HS @R7)))) (And.intro (And.intro (And.intro (And.intro @PC @HQ) (And.intro @MO @MQ)) (And.intro (And.intro @Vi @R8) (And.intro @Y7 @Vd))) (And.intro (And.intro (And.intro @Ax.Fr.ON @Ax.Fr.Vs) (And.intro @FT.eB @FT.uL)) (And.intro (And.intro @bh.{1} @ay.{1}) (And.intro @ite_true.{1} @ite_false.{1})))))) (And.intro (And.intro (And.intro (And.intro (And.intro (And.intro @true_and @cr) (And.intro @false_and @and_false)) (And.intro (And.intro @bw.{0,0} @Option.map_none.{0,0}) (And.intro @gh.{0,0} @Option.bind_none.{0,0}))) (And.intro (And.intro (And.intro @j8.{0} @an.{0}) (And.intro @Option.getD_none.{0} @gq.{0})) (And.intro (And.intro @jo.{0} @cg.{0}) (And.intro @cw.{0} @List.getElem?_nil.{0})))) (And.intro (And.intro (And.intro (And.intro @cz.{0} @dh) (And.intro @kz @iu)) (And.intro (And.intro @ou @Bool.false_or) (And.intro @Bool.or_true @Bool.true_or))) (And.intro (And.intro (And.intro @ai @Bool.true_eq_false) (And.intro @jf @ki)) (And.intro (And.intro @ni @Bool.and_false) (And.intro @qd @BEq.rfl.{0}))))) (And.intro (And.intro (And.intro (And.intro (And.intro @beq_self_eq_true.{0} @decide_true) (And.intro @decide_false @Nat.beq_refl)) (And.intro (And.intro @af.{0} @b8.{0}) (And.intro @jy.{0} @o8.{0}))) (And.intro (And.intro (And.intro @take_nil.{0} @fg.{0}) (And.intro @nf.{0} @ot.{0})) (And.intro (And.intro @List.append_eq.{0} @cq.{0}) (And.intro @dy.{0} @gz.{0})))) (And.intro (And.intro (And.intro (And.intro @jq.{0} @nh.{0}) (And.intro @dj @kq)) (And.intro (And.intro @ig.{0} @js.{0}) (And.intro @j7.{0} @ae))) (And.intro (And.intro (And.intro @Int.natCast_nonneg @Gl) (And.intro @jD @Px)) (And.intro (And.intro @GA @FF) (And.intro @gk.{0} (And.intro @Bool.not_eq_true @ne_eq.{1})))))))) (And.intro (And.intro (And.intro (And.intro (And.intro (And.intro (And.intro @not_true_eq_false @nu) (And.intro @gt_iff_lt.{0} @b9)) (And.intro (And.intro @FT.fill.eq_1 @FT.fill.eq_2) (And.intro @wS.eq_1 @wS.eq_2))) (And.intro (And.intro (And.intro @Ax.yielded.eq_1 @aX.eq_1) (And.intro @aX.eq_2 @aX.eq_3)) (And.intro (And.intro @aX.eq_4 @fD.eq_1) (And.intro @fD.eq_2 @lK.eq_1)))) (And.intro (And.intro (And.intro (And.intro @lK.eq_2 @pU.eq_1) (And.intro @pU.eq_2 @Ax.ofValue.eq_1)) (And.intro (And.intro @Ax.ofValue.eq_2 @bL.eq_1) (And.intro @bL.eq_2 @bL.eq_3))) (And.intro (And.intro (And.intro @bL.eq_4 @bL.eq_5) (And.intro @bL.eq_6 @bL.eq_7)) (And.intro (And.intro @bL.eq_8 @bL.eq_9) (And.intro @Ax.ofValues.eq_1 @Ax.ofValues.eq_2))))) (And.intro (And.intro (And.intro (And.intro (And.intro @eK.eq_1 @eK.eq_2) (And.intro @jX.eq_1 @sE.eq_1)) (And.intro (And.intro @Hx.eq_1 @qP.eq_1) (And.intro @fS.eq_1 @iN.eq_1))) (And.intro (And.intro (And.intro @jW.eq_1 @jI.eq_1) (And.intro @fB.eq_1 @oF.eq_1)) (And.intro (And.intro @mD.eq_1 @eE.eq_1) (And.intro @jJ.eq_1 @mC.eq_1)))) (And.intro (And.intro (And.intro (And.intro @jY.eq_1 @sD.eq_1) (And.intro @iJ.eq_1 @qO.eq_1)) (And.intro (And.intro @cB.eq_1 @qN.eq_1) (And.intro @d_.eq_1 @dW.eq_1))) (And.intro (And.intro (And.intro @cR.eq_1 @eP.eq_1) (And.intro @Ax.builtin.eq_1 @Ax.builtin.eq_2)) (And.intro (And.intro @Ax.builtin.eq_3 @Ax.builtin.eq_4) (And.intro @Ax.builtin.eq_5 (And.intro @Ax.builtin.eq_6 @Ax.builtin.eq_7))))))) (And.intro (And.intro (And.intro (And.intro (And.intro (And.intro @Ax.builtin.eq_8 @Ax.builtin.eq_9) (And.intro @Ax.builtin.eq_10 @Ax.builtin.eq_11)) (And.intro (And.intro @Ax.builtin.eq_12 @Ax.isAgg.eq_1) (And.intro @Ax.isAgg.eq_2 @Ax.isAgg.eq_3))) (And.intro (And.intro (And.intro @Gg.eq_1 @Gg.eq_2) (And.intro @Gg.eq_3 @Ax.fieldAddr.eq_1)) (And.intro (And.intro @Ax.field.eq_1 @Ax.field.eq_2) (And.intro @Ax.part.eq_1 @Ax.bin.eq_1)))) (And.intro (And.intro (And.intro (And.intro @Ax.bin.eq_2 @Ax.bin.eq_3) (And.intro @Ax.bin.eq_4 @Ax.bin.eq_5)) (And.intro (And.intro @Ax.bin.eq_6 @Ax.bin.eq_7) (And.intro @tH.eq_1 @tH.eq_2))) (And.intro (And.intro (And.intro @tH.eq_3 @tH.eq_4) (And.intro @tH.eq_5 @tH.eq_6)) (And.intro (And.intro @tH.eq_7 @tH.eq_8) (And.intro @Ax.arith.eq_1 @Ax.arith.eq_2))))) (And.intro (And.intro (And.intro (And.intro (And.intro @Ax.arith.eq_3 @Ax.arith.eq_4) (And.intro @Ax.arith.eq_5 @Ax.arith.eq_6)) (And.intro (And.intro @Ax.arith.eq_7 @Ax.arith.eq_8) (And.intro @Ax.arith.eq_9 @Ax.arith.eq_10))) (And.intro (And.intro (And.intro @Ax.arith.eq_11 @Ax.arith.eq_12) (And.intro @Ax.arith.eq_13 @Ax.arith.eq_14)) (And.intro (And.intro @Ax.arith.eq_15 @Ax.arith.eq_16) (And.intro @Ax.unop.eq_1 @Ax.unop.eq_2)))) (And.intro (And.intro (And.intro (And.intro @Ax.unop.eq_3 @Ax.isConst.eq_1) (And.intro @Ax.isConst.eq_2 @Ax.V.aZ.eq_1)) (And.intro (And.intro @Ax.V.aZ.eq_2 @Ax.V.aZ.eq_3) (And.intro @Ax.V.aZ.eq_4 @Ax.V.cells.eq_1))) (And.intro (And.intro (And.intro @Ax.V.cells.eq_2 @Ax.setCells.eq_1) (And.intro @FN.eq_1 @Ax.results.eq_1)) (And.intro (And.intro @Ax.results.eq_2 @Ax.results.eq_3) (And.intro @Ax.Fr.init.eq_1 (And.intro @Ax.Fr.fill.eq_1 @Ax.Fr.fill.eq_2)))))))))
end Go.Proofs.YtmhchflckonklaaGreatDoor
end
section
namespace Go.Ax
open Go
theorem lV {a0 a1 r:Prop}(h:a0/\a1) (k:r):a0/\a1/\r:=by simp only[h,k,ag]
theorem fJ {a0 a1 a2 r:Prop}(h:a0/\a1/\a2) (k:r):a0/\a1/\a2/\r:=by simp only[h,k,ag]
theorem fM {a0 a1 a2 a3 r:Prop}(h:a0/\a1/\a2/\a3) (k:r):a0/\a1/\a2/\a3/\r:=by simp only[h,k,ag]
theorem iY {a0 a1 a2 a3 a4 r:Prop}(h:a0/\a1/\a2/\a3/\a4) (k:r):a0/\a1/\a2/\a3/\a4/\r:=by simp only[h,k,ag]
theorem oG {a0 a1 a2 a3 a4 a5 r:Prop}(h:a0/\a1/\a2/\a3/\a4/\a5) (k:r):a0/\a1/\a2/\a3/\a4/\a5/\r:=by simp only[h,k,ag]
theorem Fb {a0 a1 a2 a3 a4 a5 a6 r:Prop}(h:a0/\a1/\a2/\a3/\a4/\a5/\a6) (k:r):a0/\a1/\a2/\a3/\a4/\a5/\a6/\r:=by simp only[h,k,ag]
theorem Qb {a0 a1 a2 a3 a4 a5 a6 a7 r:Prop}(h:a0/\a1/\a2/\a3/\a4/\a5/\a6/\a7) (k:r):a0/\a1/\a2/\a3/\a4/\a5/\a6/\a7/\r:=by simp only[h,k,ag]
theorem zJ {a0 a1 a2 a3 a4 a5 a6 a7 a8 r:Prop}(h:a0/\a1/\a2/\a3/\a4/\a5/\a6/\a7/\a8) (k:r):a0/\a1/\a2/\a3/\a4/\a5/\a6/\a7/\a8/\r:=by simp only[h,k,ag]
theorem J1 {a0 a1 a2 a3 a4 a5 a6 a7 a8 a9 r:Prop}(h:a0/\a1/\a2/\a3/\a4/\a5/\a6/\a7/\a8/\a9) (k:r):a0/\a1/\a2/\a3/\a4/\a5/\a6/\a7/\a8/\a9/\r:=by simp only[h,k,ag]
inductive dZ {α β:Type} (P:α->β->Prop):List α->List β->Prop
 |nil:dZ P [] []
 |cons {a b l m}:P a b->dZ P l m->dZ P (a::l) (b::m)
namespace dZ
variable {α β:Type}{P Q:α->β->Prop}{l l':List α}{m m':List β}
theorem len (h:dZ P l m):l.length=m.length:=by
 induction h with
 |nil=>rfl
 |cons _ _ ih=>simp[ih]
theorem append (h:dZ P l m) (k:dZ P l' m'):dZ P (l++l') (m++m'):=by
 induction h with
 |nil=>exact k
 |cons p _ ih=>exact .cons p ih
theorem take (h:dZ P l m):∀n,dZ P (l.take n) (m.take n):=by
 induction h with
 |nil=>intro n;rw[take_nil,take_nil];exact .nil
 |cons p _ ih=>
  intro n
  cases n with
  |zero=>exact .nil
  |succ n=>exact .cons p (ih n)
theorem drop (h:dZ P l m):∀n,dZ P (l.drop n) (m.drop n):=by
 induction h with
 |nil=>intro n;rw[ot,ot];exact .nil
 |cons p q ih=>
  intro n
  cases n with
  |zero=>exact .cons p q
  |succ n=>exact ih n
theorem get (h:dZ P l m):∀(i:Nat) (x:β),m[i]?=some x->∃r,l[i]?=some r/\P r x:=by
 induction h with
 |nil=>intro i x e;cases e
 |cons p _ ih=>
  intro i x e
  cases i with
  |zero=>cases e;exact⟨_,rfl,p⟩
  |succ i=>exact ih i x e
theorem mem (h:dZ P l m) {r:α}(hr:r∈l):∃x∈m,P r x:=by
 induction h with
 |nil=>cases hr
 |cons p _ ih=>
  rcases IN.1 hr with rfl | hr
  ·exact⟨_,By ..,p⟩
  ·obtain⟨x,h1,h2⟩:=ih hr;exact⟨x,No _ h1,h2⟩
theorem imp (h:dZ P l m) (k:∀a b,P a b->Q a b):dZ Q l m:=by
 induction h with
 |nil=>exact .nil
 |cons p _ ih=>exact .cons (k _ _ p) ih
theorem one {a:α}{b:β} (p:P a b):dZ P [a] [b]:=.cons p .nil
theorem map {γ:Type}{f:γ->α}{g:γ->β} (k:∀c,P (f c) (g c)):∀l:List γ,dZ P (l.map f) (l.map g)
 | []=>.nil
 |c::l=>.cons (k c) (map k l)
end dZ
def bF:V->Bool
 | .bS .. | .cL .. | .imp .. | .bool _ | .int .. | .str _ | .gG | .aF | .b_ | .rC | .rB=>true
 |_=>false
theorem aN {c:V}(h:bF c=true):c.aZ=true:=by cases c <;> first | rfl | cases h
theorem gF {Z:Sg}{ty:Nat->Option Ty}{g:Bool}{n:Nat}{c:V}(h:bF c=true):bG Z ty g (n+1) c=some c:=by
 cases c <;> first | rfl | cases h
theorem cN {Z:Sg}{ty:Nat->Option Ty}{g:Bool}{c:V}(h:bF c=true)(ht:bT g c=true):aT Z ty g c=some c:=by
 have e:aT.one Z ty g c=some c:=by
  unfold aT.one
  rw[show dN=11+1 from rfl,gF h]
  simp only[ht,bh]
 cases c <;> first | exact e | cases h
theorem Er {Z:Sg}{ty:Nat->Option Ty}{g:Bool}{c:V}(h:bF c=true)(ht:bT g c=true):cG Z ty g c=some c:=by
 have:=cN (Z:=Z) (ty:=ty) h ht
 cases c <;> first | exact this | cases h
theorem bZ {c:V}(h:bF c=true):bT true c=true:=by cases c <;> first | rfl | cases h
theorem gH {α:Type}{f:α->Option α}:∀{l:List α},(∀x∈l,f x=some x)->aW f l=some l
 | [],_=>rfl
 |x::l,h=>by rw[aW,h x (By ..),gH λy hy=>h y (No _ hy)]
theorem Cr {Z:Sg}{ty:Nat->Option Ty}{g:Bool}{b n t:Nat}{cs:List V}{ex:Bool}{i:Ty}(hb:Z[b]?=some (.cells t cs ex))(hty:ty t=some i)(hlen:n*i.size<=cs.length)
  (hi:∀c∈cs.take (n*i.size),bF c=true/\bT g c=true):∃full,aT Z ty g (.sl b 0 n none)=some (.bS g (rows i.size n (cs.take (n*i.size))) full):=by
 have hm:aW (λv=>match bG Z ty g 11 v with
   |some v=>if bT g v then some v else no "snap: borrowed"
   |none=>none) ((cs.drop 0).take (n*i.size))=some (cs.take (n*i.size)):=by
  rw[fg]
  refine gH λx hx=>?_
  rw[show 11=10+1 from rfl,gF (hi x hx).1]
  simp only[(hi x hx).2,bh]
 refine⟨ex&&decide (0<i.size)&&(0+n*i.size==cs.length),?_⟩
 show (match bG Z ty g 12 (.sl b 0 n none) with
  |some v=>if bT g v then some v else no "snap: borrowed"
  |none=>none)=_
 have e:bG Z ty g 12 (.sl b 0 n none)=some (.bS g (rows i.size n (cs.take (n*i.size))) (ex&&decide (0<i.size)&&(0+n*i.size==cs.length))):=by
  rw[bG]
  simp only[hb,hty]
  rw[bf (by omega)]
  exact au (λo=>match o with
   |some l=>some (V.bS g (rows i.size n l) (ex&&decide (0<i.size)&&(0+n*i.size==cs.length)))
   |none=>none) hm
 rw[e]
 show (if (g || !g)=true then _ else _)=_
 rw[bf (by cases g <;> rfl)]
theorem kG {sz:Nat}:∀(rs:List (List V)),(∀r∈rs,r.length=sz)->rows sz rs.length rs.flatten=rs
 | [],_=>rfl
 |r::rs,h=>by
  have hr:=h r (By ..)
  rw[af,rows,da,List.take_append_of_le_length (by omega),ah (by omega),List.drop_append_of_le_length (by omega),jk (by omega),cq,kG rs λx hx=>h x (No _ hx)]
theorem lU {sz:Nat}:∀(rs:List (List V)),(∀r∈rs,r.length=sz)->rs.flatten.length=rs.length*sz
 | [],_=>by simp
 |r::rs,h=>by
  rw[da,ak,h r (By ..),lU rs λx hx=>h x (No _ hx),af,jj,kj]
theorem Dj {sz:Nat}:∀(rs:List (List V)),(∀r∈rs,r.length=sz)->∀(i:Nat) (r:List V),rs[i]?=some r->(rs.flatten.drop (i*sz)).take sz=r
 | [],_,i,r,e=>by cases e
 |x::rs,h,0,r,e=>by
  cases e
  have hr:=h x (By ..)
  rw[ir,fg,da,List.take_append_of_le_length (by omega),ah (by omega)]
 |x::rs,h,i+1,r,e=>by
  have hr:=h x (By ..)
  rw[da,List.drop_append,jk (by rw[jj];omega),cq,show (i+1)*sz-x.length=i*sz by rw[jj];omega]
  exact Dj rs (λy hy=>h y (No _ hy)) i r e
structure Lay (α:Type) where
 P:List V->α->Prop
 n:Nat
 len:∀r x,P r x->r.length=n
 im:∀r x,P r x->∀c∈r,bF c=true
def IS {α:Type} (L:Lay α) (v:V) (l:List α):Prop:=(v=.aF/\l=[])\/∃g rs full,v=.bS g rs full/\dZ L.P rs l
def jG {α:Type} (L:Lay α) (v:V) (l:List α):Prop:=(v=.aF/\l=[])\/∃rs full,v=.bS false rs full/\dZ L.P rs l
def LS {α:Type} (L:Lay α) (t:Nat) (Z:Sg) (v:V) (l:List α):Prop:=IS L v l\/∃b cs ex rs,v=.sl b 0 l.length none/\Z[b]?=some (.cells t cs ex)/\dZ L.P rs l/\cs.take (l.length*L.n)=rs.flatten
def OS {α:Type} (L:Lay α) (t:Nat) (lo:Nat) (Z:Sg) (v:V) (l:List α):Prop:=(v=.aF/\l=[])\/∃b rs,lo<=b/\v=.sl b 0 l.length none/\Z[b]?=some (.cells t rs.flatten false)/\dZ L.P rs l
section
variable {α:Type}{L:Lay α}{E:Env}{Z:Sg}{v:V}{l:List α}{t:Nat}
theorem jG.is (h:jG L v l):IS L v l:=h.imp id λ⟨rs,full,e,a⟩=>⟨false,rs,full,e,a⟩
theorem IS.ls (h:IS L v l) (Z:Sg) (t:Nat):LS L t Z v l:=.inl h
theorem IS.bF (h:IS L v l):bF v=true:=by rcases h with⟨rfl,-⟩ | ⟨_,_,_,rfl,-⟩ <;> rfl
theorem jG.tag (h:jG L v l):bT false v=true:=by rcases h with⟨rfl,-⟩ | ⟨_,_,rfl,-⟩ <;> rfl
theorem Lay.lens {rs:List (List V)}(h:dZ L.P rs l):∀r∈rs,r.length=L.n:=λr hr=>by
 obtain⟨x,-,hx⟩:=h.mem hr
 exact L.len r x hx
theorem Lay.flat {rs:List (List V)}(h:dZ L.P rs l):rs.flatten.length=l.length*L.n:=by rw[lU rs (Lay.lens h),h.len]
theorem OS.ls {lo:Nat}(h:OS L t lo Z v l):LS L t Z v l:=by
 rcases h with h | ⟨b,rs,-,e,hb,ha⟩
 ·exact .inl (.inl h)
 ·exact .inr ⟨b,_,_,rs,e,hb,ha,ah (by rw[Lay.flat ha];exact ae _)⟩
theorem LS.keep {Y:Sg}(h:LS L t Z v l) (k:∀(b t:Nat) (cs:List V) (ex:Bool),Z[b]?=some (.cells t cs ex)->Y[b]?=some (.cells t cs ex)):LS L t Y v l:=
 h.imp id λ⟨b,cs,ex,rs,e,hb,r⟩=>⟨b,cs,ex,rs,e,k _ _ _ _ hb,r⟩
theorem OS.keep {Y:Sg}{lo:Nat}(h:OS L t lo Z v l) (k:∀(b t:Nat) (cs:List V) (ex:Bool),lo<=b->Z[b]?=some (.cells t cs ex)->Y[b]?=some (.cells t cs ex)):OS L t lo Y v l:=
 h.imp id λ⟨b,rs,hl,e,hb,r⟩=>⟨b,rs,hl,e,k _ _ _ _ hl hb,r⟩
theorem mZ {ts e:Nat}{si:Ty}(hts:E.ty ts=some si)(hk:si.kd=.sl e)(h:LS L t Z v l):lenOf E Z ts v=some l.length:=by
 unfold lenOf
 rw[hts]
 simp only[hk]
 rcases h with (⟨rfl,rfl⟩ | ⟨g,rs,full,rfl,ha⟩) | ⟨b,cs,ex,rs,rfl,-⟩
 ·rfl
 ·show some rs.length=_;rw[ha.len]
 ·rfl
theorem DJ {ts:Nat}{si ei:Ty}(hts:E.ty ts=some si)(hk:si.kd=.sl t)(ht:E.ty t=some ei)(hn:ei.size=L.n)(h:LS L t Z v l) {i:Nat}{x:α}(hx:l[i]?=some x) :
  ∃p r,indexAddr E ts v (.int .i64 (i:Int))=some p/\L.P r x/\(isAgg ei.kd=true->loadAt E Z t p=some (.agg r))/\(isAgg ei.kd=false->0<L.n->loadAt E Z t p=r.head?) /\
   ((∃g,p=.cL g r)\/∃b o,p=.ref b o/\∃u cs ex,Z[b]?=some (.cells u cs ex)/\o+L.n<=cs.length/\(cs.drop o).take L.n=r):=by
 have hneg:¬ ((i:Int)<0):=by omega
 obtain⟨kd,size,bytes,zero⟩:=si
 replace hk:kd=.sl t:=hk
 subst hk
 rcases h with (⟨rfl,rfl⟩ | ⟨g,rs,full,rfl,ha⟩) | ⟨b,cs,ex,rs,rfl,hb,ha,hc⟩
 ·cases hx
 ·obtain⟨r,hr,hp⟩:=ha.get i x hx
  have hl:=L.len r x hp
  refine⟨.cL g r,r,?_,hp,λhg=>?_,λhg hn0=>?_,.inl ⟨g,rfl⟩⟩
  ·unfold indexAddr
   simp only[hneg,ay,hts,ht,cv,hr]
   rw[bf (by rw[hl,hn];exact BEq.rfl)]
  ·unfold loadAt
   simp only[ht,hg,bh]
   rw[bf (by omega),ah (by omega)]
  ·unfold loadAt
   simp only[ht,hg,ai,ay]
 ·obtain⟨r,hr,hp⟩:=ha.get i x hx
  have hi:=(AI.1 hx).1
  have hl:=L.len r x hp
  have hfl:=Lay.flat ha
  have hlen:l.length*L.n<=cs.length:=by
   have:=au List.length hc
   rw[br,hfl]at this
   omega
  have him:(i+1)*L.n<=l.length*L.n:=gr _ hi
  rw[jj]at him
  have ho:i*L.n+L.n<=cs.length:=by omega
  have hd:(cs.drop (i*L.n)).take L.n=r:=by
   have:=Dj rs (Lay.lens ha) i r hr
   rw[<- hc,List.drop_take,pn,my (by omega)]at this
   exact this
  refine⟨.ref b (i*L.n),r,?_,hp,λhg=>?_,λhg hn0=>?_,.inr ⟨b,_,rfl,_,_,_,hb,ho,hd⟩⟩
  ·unfold indexAddr
   simp only[hneg,ay,hts,ht,cv]
   rw[bf hi,hn,dj]
  ·unfold loadAt
   simp only[ht,hb,hg,bh]
   rw[hn,bf ho,hd]
  ·unfold loadAt
   simp only[ht,hb,hg,ai,ay]
   rw[<- hd,List.head?_take,az (by omega),List.head?_drop]
theorem BH {ei:Ty}(ht:E.ty t=some ei)(hn:ei.size=L.n)(h:LS L t Z v l):∃v',aT Z E.ty true v=some v'/\IS L v' l:=by
 rcases h with h | ⟨b,cs,ex,rs,rfl,hb,ha,hc⟩
 ·exact⟨v,cN h.bF (bZ h.bF),h⟩
 ·have hlen:l.length*L.n<=cs.length:=by
   have:=au List.length hc
   rw[br,Lay.flat ha]at this
   omega
  obtain⟨full,e⟩:=Cr (g:=true) (n:=l.length) hb ht (by rw[hn];exact hlen) (λc hcm=>by
   rw[hn,hc]at hcm
   obtain⟨r,hr,hcr⟩:=List.mem_flatten.1 hcm
   obtain⟨x,-,hp⟩:=ha.mem hr
   have:=L.im r x hp c hcr
   exact⟨this,bZ this⟩)
  refine⟨_,e,.inr ⟨true,rs,full,?_,ha⟩⟩
  rw[hn,hc,<- ha.len,kG rs (Lay.lens ha)]
end
theorem aS {E:Env}{c:Code}{s:List gT}{w:Nat}{Q:X->Fr->Sg->Prop} (I:Nat->FT->Sg->Prop) (n:Nat)
  (step:∀i F Z,i<n->I i F Z->(∀F' σ',I (i+1) F' σ'->R E (.loop c) s ⟨w,F'⟩ σ' Q)->R E (.loop c) s ⟨w,F⟩ Z Q)
  (fin:∀F Z,I n F Z->R E (.loop c) s ⟨w,F⟩ Z Q):∀(k i:Nat) (F:FT) (Z:Sg),i+k=n->I i F Z->R E (.loop c) s ⟨w,F⟩ Z Q:=by
 intro k
 induction k with
 |zero=>intro i F Z e h;rw[kq]at e;subst e;exact fin F Z h
 |succ k ih=>intro i F Z e h;exact step i F Z (by omega) h λF' σ' h'=>ih (i+1) F' σ' (by omega) h'
end Go.Ax
end
section
namespace Go.Ax
open Go
section
def aV {α:Type} (L:Lay α) (t:Nat) (Z:Sg) (v:V) (l:List α):Prop:=(v=.aF/\l=[])\/∃b rs ex,v=.sl b 0 l.length none/\Z[b]?=some (.cells t rs.flatten ex)/\dZ L.P rs l
def aR:V->Option Nat
 | .sl b _ _ _=>some b
 |_=>none
def Sp (Z σ':Sg) (w:V):Prop:=∀(c:Nat) (o:O),Z[c]?=some o->aR w≠some c->σ'[c]?=some o
section
variable {α:Type}{L:Lay α}{E:Env}{Z:Sg}{w x:V}{l m:List α}{t ts:Nat}{si ei:Ty}{ats:Array Nat}
theorem aV.ls (h:aV L t Z w l):LS L t Z w l:=by
 rcases h with h | ⟨b,rs,ex,e,hb,ha⟩
 ·exact .inl (.inl h)
 ·exact .inr ⟨b,_,_,rs,e,hb,ha,ah (by rw[Lay.flat ha];exact ae _)⟩
theorem aV.keep {σ':Sg}(h:aV L t Z w l) (k:∀c o,aR w=some c->Z[c]?=some o->σ'[c]?=some o):aV L t σ' w l:=by
 rcases h with h | ⟨b,rs,ex,rfl,hb,ha⟩
 ·exact .inl h
 ·exact .inr ⟨b,rs,ex,rfl,k b _ rfl hb,ha⟩
theorem aV.app (h:aV L t Z w l) (Y:Sg):aV L t (Z++Y) w l:=h.keep λc o _ e=>by
 rw[aq (AI.1 e).1];exact e
theorem Sp.refl (Z:Sg) (w:V):Sp Z Z w:=λ_ _ h _=>h
theorem dA {a b c:Nat}(h:roomy b c=true)(hab:a<=b):roomy a c=true:=by
 unfold roomy at h ⊢
 rw[OF]at h ⊢
 generalize 281474976710656=B at h ⊢
 have h2:(2*a+256)*(c+1)<=(2*b+256)*(c+1):=gr _ (Nat.add_le_add_right (Nat.mul_le_mul_left 2 hab) 256)
 exact e8 h2 h
theorem Ab {a b c:Nat}(h:roomy b c=true)(hab:a<=b):lG a c=true:=by
 unfold roomy at h
 unfold lG
 rw[OF]at h ⊢
 generalize 281474976710656=B at h ⊢
 have h2:a*(c+1)<=(2*b+256)*(c+1):=gr _ (by omega)
 exact e8 h2 h
theorem iR (hts:E.ty ts=some si)(hk:si.kd=.sl t)(ht:E.ty t=some ei)(hn:ei.size=L.n)(hn0:0<L.n)(hpl:fA E ats=true)(hats:ats[0]?=some ts)(h:aV L t Z w l) {new:List (List V)}
  (hx:elems Z ei.size x=some (new.flatten,m.length))(hm:dZ L.P new m)(hr:roomy (l.length+m.length) ei.bytes=true) :
  ∃w' σ',append E Z ats w x=some (w',σ')/\aV L t σ' w' (l++m)/\Sp Z σ' w/\Z.length<=σ'.length/\∀b,aR w'=some b->aR w=some b\/Z.length<=b:=by
 obtain⟨kd,size,bytes,zero⟩:=si
 replace hk:kd=.sl t:=hk
 subst hk
 have hfm:=Lay.flat hm
 have hne:(ei.size==0)=false:=by rw[hn];simp;omega
 have hr2:lG m.length ei.bytes=true:=Ab hr (by omega)
 unfold append
 simp only[hats,hts,ht,hpl,hne,hx,dh,iu,ai,ay]
 rcases h with⟨rfl,rfl⟩ | ⟨b,rs,ex,rfl,hbk,ha⟩
 ·by_cases h0:m.length=0
  ·simp only[h0,bh]
   obtain rfl:=iy.1 h0
   exact⟨_,_,rfl,.inl ⟨rfl,rfl⟩,Sp.refl _ _,ae _,λb e=>by cases e⟩
  ·simp only[h0,ay,hr2,bh]
   refine⟨_,_,rfl,.inr ⟨Z.length,new,false,by rw[cq],by simp,by rw[cq];exact hm⟩,λc o e _=>?_,by simp,λb e=>by cases e;exact .inr (ae _)⟩
   rw[aq (AI.1 e).1];exact e
 ·have hfa:=Lay.flat ha
  have hlt:=(AI.1 hbk).1
  have hform:(t==t&&decide (l.length*ei.size<=rs.flatten.length)&&roomy (l.length+m.length) ei.bytes)=true:=by
   rw[hr,hfa,hn];simp
  simp only[hbk,dj,hform,dh,ai,ay]
  by_cases h0:m.length=0
  ·obtain rfl:=iy.1 h0
   have hnew:new=[]:=by
    have:=hm.len
    exact iy.1 (by simpa using this)
   subst hnew
   rw[bf (by rw[hfa,hn];simp)]
   refine⟨_,_,rfl,.inr ⟨b,rs,ex,by simp,?_,by simpa using ha⟩,λc o e hne=>?_,by simp,λb e=>.inl e⟩
   ·rw[bj hlt]
    unfold setCells
    rw[hn,ah (by rw[hfa];exact ae _),jk (by rw[hfa];simp)]
    simp
   ·rw[IT (λe2=>hne (by rw[e2];rfl))];exact e
  ·have hbig:¬ (l.length+m.length)*ei.size<=rs.flatten.length:=by
    rw[hfa,hn,og]
    have:0<m.length*L.n:=Nat.mul_pos (Nat.pos_of_ne_zero h0) hn0
    omega
   have htk:rs.flatten.take (l.length*ei.size)=rs.flatten:=ah (by rw[hfa,hn];exact ae _)
   have hfl:rs.flatten++new.flatten=(rs++new).flatten:=by simp
   simp only[hbig,ay,bh,htk,fg,hfl]
   cases ex with
   |true=>
    refine⟨_,_,rfl,.inr ⟨Z.length,rs++new,false,by simp,by simp,ha.append hm⟩,λc o e _=>?_,by simp,λb e=>by cases e;exact .inr (ae _)⟩
    rw[aq (AI.1 e).1];exact e
   |false=>
    refine⟨_,_,rfl,.inr ⟨Z.length,rs++new,false,by simp,by simp,ha.append hm⟩,λc o e hne=>?_,by simp,λb e=>by cases e;exact .inr (ae _)⟩
    have hc:=(AI.1 e).1
    rw[aq (by simpa using hc),IT (λe2=>hne (by rw[e2];rfl))];exact e
theorem QG (hts:E.ty ts=some si)(hk:si.kd=.sl t)(ht:E.ty t=some ei)(hn:ei.size=L.n)(hn0:0<L.n)(hpl:fA E ats=true)(hats:ats[0]?=some ts) {new:List (List V)}
  (hx:elems Z ei.size x=some (new.flatten,m.length))(hm:dZ L.P new m)(hr:lG m.length ei.bytes=true) :
  ∃w' σ',append E Z ats .aF x=some (w',σ')/\aV L t σ' w' m:=by
 obtain⟨kd,size,bytes,zero⟩:=si
 replace hk:kd=.sl t:=hk
 subst hk
 have hne:(ei.size==0)=false:=by rw[hn];simp;omega
 unfold append
 simp only[hats,hts,ht,hpl,hne,hx,dh,iu,ai,ay]
 by_cases h0:m.length=0
 ·simp only[h0,bh]
  obtain rfl:=iy.1 h0
  exact⟨_,_,rfl,.inl ⟨rfl,rfl⟩⟩
 ·simp only[h0,ay,hr,bh]
  exact⟨_,_,rfl,.inr ⟨Z.length,new,false,rfl,by simp,hm⟩⟩
theorem kL {r:List V}{ex:Bool}{Y:Sg}{n:Nat}(hr:r.length=n):elems (Y++[.cells t r ex]) n (.sl Y.length 0 1 none)=some ([r].flatten,1):=by
 unfold elems
 simp[ah (Nat.le_of_eq hr),hr]
theorem Ek {rs:List (List V)}(h:dZ L.P rs l):Br L.n rs=true:=by
 cases h with
 |nil=>rfl
 |cons p _=>show (_==_)=true;rw[L.len _ _ p];exact BEq.rfl
theorem nW (ia:IS L x l) (Z:Sg):∃rs,elems Z L.n x=some (rs.flatten,l.length)/\dZ L.P rs l:=by
 rcases ia with⟨rfl,rfl⟩ | ⟨g,rs,full,rfl,ha⟩
 ·exact⟨[],rfl,.nil⟩
 ·exact⟨rs,by unfold elems;simp only[];rw[bf (Ek ha),ha.len],ha⟩
theorem Im (ia:LS L t Z x l):∃rs,elems Z L.n x=some (rs.flatten,l.length)/\dZ L.P rs l:=by
 rcases ia with ia | ⟨b,cs,ex,rs,rfl,hb,ha,hc⟩
 ·exact nW ia Z
 ·refine⟨rs,?_,ha⟩
  have:l.length*L.n<=cs.length:=by
   have:=au List.length hc
   rw[br,Lay.flat ha]at this
   omega
  unfold elems
  simp only[hb,dj,fg]
  rw[bf this,hc]
theorem dZ.set {β γ:Type}{P:β->γ->Prop}{a:List β}{b:List γ}(h:dZ P a b) {r:β}{y:γ}(hr:P r y):∀i,dZ P (a.set i r) (b.set i y):=by
 induction h with
 |nil=>intro i;cases i <;> exact .nil
 |cons p q ih=>
  intro i
  cases i with
  |zero=>exact .cons hr q
  |succ i=>exact .cons p (ih i)
theorem Cw {sz:Nat}:∀(rs:List (List V)) (i:Nat) (r:List V),(∀x∈rs,x.length=sz)->r.length=sz->i<rs.length->setCells rs.flatten (i*sz) r=(rs.set i r).flatten
 | [],i,r,_,_,h=>by simp at h
 |y::rs,0,r,hl,hr,_=>by
  have hy:=hl y (By ..)
  unfold setCells
  rw[ir,jy,cq,dj,jq,da,da,hr,<- hy,List.drop_left]
 |y::rs,i+1,r,hl,hr,h=>by
  have hy:=hl y (By ..)
  have ih:=Cw rs i r (λx hx=>hl x (No _ hx)) hr (by simpa using h)
  unfold setCells at ih ⊢
  rw[nh,da,da,<- ih,jj,List.take_append,List.drop_append,ah (by omega),jk (by omega),cq,show i*sz+sz-y.length=i*sz by omega,show i*sz+sz+r.length-y.length=i*sz+r.length by omega,cn,cn,cn]
theorem zV (hts:E.ty ts=some si)(hk:si.kd=.sl t)(ht:E.ty t=some ei)(hn:ei.size=L.n)(h:aV L t Z w l) {i:Nat}(hi:i<l.length) {u:V}{y:α}(hu:L.P u.cells y)(hok:u.cells.all V.aZ=true) :
  ∃b,indexAddr E ts w (.int .i64 (i:Int))=some (.ref b (i*L.n))/\aR w=some b/\∃σ',storeAt E Z t (.ref b (i*L.n)) u=some σ'/\aV L t σ' w (l.set i y)/\Sp Z σ' w/\σ'.length=Z.length:=by
 obtain⟨kd,size,bytes,zero⟩:=si
 replace hk:kd=.sl t:=hk
 subst hk
 have hneg:¬ ((i:Int)<0):=by omega
 rcases h with⟨rfl,rfl⟩ | ⟨b,rs,ex,rfl,hbk,ha⟩
 ·simp at hi
 ·have hlt:=(AI.1 hbk).1
  have hfa:=Lay.flat ha
  have hul:=L.len _ _ hu
  have him:(i+1)*L.n<=l.length*L.n:=gr _ hi
  rw[jj]at him
  have hrl:i<rs.length:=by rw[ha.len];exact hi
  refine⟨b,?_,rfl,_,?_,.inr ⟨b,rs.set i u.cells,ex,by rw[ec],bj hlt,ha.set hu i⟩,λc o e hne=>?_,by simp⟩
  ·unfold indexAddr
   simp only[hneg,ay,hts,ht,cv,hi,bh,hn,dj]
  ·unfold storeAt
   simp only[ht,hbk]
   rw[bf (by simp only[hul,hn,hok,ki,BEq.rfl,jf,OF];rw[hfa];omega),Cw rs i u.cells (Lay.lens ha) hul hrl]
  ·rw[IT (λe2=>hne (by rw[e2];rfl))];exact e
theorem pD (ht:E.ty t=some ei)(hn:ei.size=L.n)(hF:∀r x,L.P r x->∀c∈r,bT false c=true)(h:aV L t Z w l):∃v',cG Z E.ty false w=some v'/\jG L v' l:=by
 rcases h with⟨rfl,rfl⟩ | ⟨b,rs,ex,rfl,hb,ha⟩
 ·exact⟨.aF,rfl,.inl ⟨rfl,rfl⟩⟩
 ·have hfl:=Lay.flat ha
  have htk:rs.flatten.take (l.length*L.n)=rs.flatten:=ah (by omega)
  obtain⟨full,e⟩:=Cr (g:=false) (n:=l.length) hb ht (by rw[hn];omega) (λc hcm=>by
   rw[hn,htk]at hcm
   obtain⟨r,hr,hcr⟩:=List.mem_flatten.1 hcm
   obtain⟨x,-,hp⟩:=ha.mem hr
   exact⟨L.im r x hp c hcr,hF r x hp c hcr⟩)
  refine⟨_,e,.inr ⟨rs,full,?_,ha⟩⟩
  rw[hn,htk,<- ha.len,kG rs (Lay.lens ha)]
theorem Cv {lo hi:Option V}{a b:Nat}(hts:E.ty ts=some si)(hk:si.kd=.sl t)(ht:E.ty t=some ei)(hn:ei.size=L.n) (ia:IS L w l)(hb:hi=none/\b=l.length\/hi=some (.int .i64 (b:Int)))(ha:lo=none/\a=0\/lo=some (.int .i64 (a:Int)))(hab:a<=b)(hbl:b<=l.length) :
  ∃w',(∀Z,slice E Z ts w lo hi none=some w')/\IS L w' ((l.take b).drop a)/\(jG L w l->jG L w' ((l.take b).drop a)):=by
 obtain⟨kd,size,bytes,zero⟩:=si
 replace hk:kd=.sl t:=hk
 subst hk
 have bd:∀(n d:Nat) (o:Option V) (c:Nat),(o=none/\c=d\/o=some (.int .i64 (c:Int)))->c<=n->bound n o d=some c:=by
  intro n d o c h hc
  rcases h with⟨rfl,rfl⟩ | rfl
  ·rfl
  ·unfold bound
   simp only[]
   rw[bf]
   ·rfl
   ·simp only[aj,OF];omega
 rcases ia with⟨rfl,rfl⟩ | ⟨g,rs,full,rfl,hal⟩
 ·have hb0:b=0:=by simpa using hbl
  subst hb0
  obtain rfl:a=0:=by omega
  refine⟨.aF,λZ=>?_,.inl ⟨rfl,by simp⟩,λ_=>.inl ⟨rfl,by simp⟩⟩
  unfold slice
  simp only[hts,ht,jo,ni]
  rw[show bound 0 none 0=some 0 from rfl]
  simp only[]
  rw[bd 0 0 hi 0 (by rcases hb with⟨e,_⟩ | e;exact .inl ⟨e,rfl⟩;exact .inr e) (ae _)]
  simp only
  rw[bd 0 0 lo 0 ha (ae _)]
 ·have hlen:=hal.len
  have hres:dZ L.P ((rs.drop a).take (b-a)) ((l.take b).drop a):=by
   rw[show (l.take b).drop a=(l.drop a).take (b-a) by rw[List.drop_take]]
   exact (hal.drop a).take _
  refine⟨.bS g ((rs.drop a).take (b-a)) (qQ none rs.length b full rs.length),λZ=>?_,.inr ⟨g,_,_,rfl,hres⟩,λhF=>.inr ⟨(rs.drop a).take (b-a),qQ none rs.length b full rs.length,?_,hres⟩⟩
  ·unfold slice
   simp only[hts,ht,jo,ni]
   rw[hn,Ek hal]
   simp only[dh,ai,ay]
   rw[show bound rs.length none rs.length=some rs.length from rfl]
   simp only
   rw[bd rs.length rs.length hi b (by rw[hlen];exact hb) (by omega)]
   simp only
   rw[bd b 0 lo a ha hab]
  ·rcases hF with⟨e,-⟩ | ⟨_,_,e,-⟩
   ·cases e
   ·cases e;rfl
end
end
end Go.Ax
end
section
namespace Go.Proofs.YtmhchflckonklaaGreatDoor
open Go Go.Ax Go.AxS
section
structure bK (E:Env):Prop where
 nQ:E.ty 3=some { kd:=.int .i64,size:=1,bytes:=8,zero:=.int .i64 0 }
 tR:E.ty 4=some { kd:=.bool,size:=1,bytes:=1,zero:=.bool false }
 ty5:E.ty 5=some { kd:=.int .u8,size:=1,bytes:=1,zero:=.int .u8 0 }
 c_:E.ty 9=some { kd:=.str,size:=1,bytes:=16,zero:=.str [] }
 xP:E.ty 22=some { kd:=.sl 46,size:=1,bytes:=24,zero:=.aF }
 dB:E.ty 23=some { kd:=.sl 51,size:=1,bytes:=24,zero:=.aF }
 bC:E.ty 24=some { kd:=.sl 9,size:=1,bytes:=24,zero:=.aF }
 NQ:E.ty 40=some { kd:=.sl 24,size:=1,bytes:=24,zero:=.aF }
 gA:E.ty 44=some { kd:=.sl 113,size:=1,bytes:=24,zero:=.aF }
 bM:E.ty 46=some { kd:=.jP [(0,9),(1,24),(2,24),(3,24),(4,44)],size:=5,bytes:=112,zero:=.agg [.str [],.aF,.aF,.aF,.aF] }
 cF:E.ty 51=some { kd:=.jP [(0,4),(1,9)],size:=2,bytes:=24,zero:=.agg [.bool false,.str []] }
 tQ:E.ty 61=some { kd:=.sl 99,size:=1,bytes:=24,zero:=.aF }
 ty87:E.ty 87=some { kd:=.int .i64,size:=1,bytes:=8,zero:=.int .i64 0 }
 GU:E.ty 91=some { kd:=.map 9 9,size:=1,bytes:=8,zero:=.b_ }
 oB:E.ty 99=some { kd:=.sl 4,size:=1,bytes:=24,zero:=.aF }
 Ws:E.ty 101=some { kd:=.map 9 24,size:=1,bytes:=8,zero:=.b_ }
 tG:E.ty 103=some { kd:=.map 9 4,size:=1,bytes:=8,zero:=.b_ }
 NR:E.ty 109=some { kd:=.sl 3,size:=1,bytes:=24,zero:=.aF }
 bR:E.ty 113=some { kd:=.jP [(0,9),(1,3),(2,24),(3,24),(4,3)],size:=5,bytes:=80,zero:=.agg [.str [],.int .i64 0,.aF,.aF,.int .i64 0] }
 Zk:E.hspec 223=none
 WK:E.spec 223=none
 aaa:E.fn 223=some (aA Tryz.f223)
 Yr:E.mode 223=.fK
 Zl:E.hspec 222=none
 WL:E.spec 222=none
 aab:E.fn 222=some (aA Tryz.f222)
 Ys:E.mode 222=.fK
 Zt:E.hspec 185=none
 WU:E.spec 185=none
 aaj:E.fn 185=some (aA Tryz.f185)
 YA:E.mode 185=.fK
 hs95:E.hspec 95=none
 sp95:E.spec 95=none
 fn95:E.fn 95=some (aA Tryz.f95)
 md95:E.mode 95=.fK
 Zu:E.hspec 184=none
 WV:E.spec 184=none
 aak:E.fn 184=some (aA Tryz.f184)
 YB:E.mode 184=.fK
 ZE:E.hspec 151=none
 W9:E.spec 151=none
 aas:E.fn 151=some (aA Tryz.f151)
 YJ:E.mode 151=.fK
 ZF:E.hspec 150=none
 W_:E.spec 150=none
 aat:E.fn 150=some (aA Tryz.f150)
 YK:E.mode 150=.fK
 ZQ:E.hspec 112=none
 Xk:E.spec 112=none
 aaE:E.fn 112=some (aA Tryz.f112)
 YV:E.mode 112=.fK
 ZP:E.hspec 113=none
 Xj:E.spec 113=none
 aaD:E.fn 113=some (aA Tryz.f113)
 YU:E.mode 113=.fK
 hs90:E.hspec 90=none
 sp90:E.spec 90=none
 fn90:E.fn 90=some (aA Tryz.f90)
 md90:E.mode 90=.fK
 hs78:E.hspec 78=none
 sp78:E.spec 78=none
 fn78:E.fn 78=some (aA Tryz.f78)
 md78:E.mode 78=.fK
 hs91:E.hspec 91=none
 sp91:E.spec 91=none
 fn91:E.fn 91=some (aA Tryz.f91)
 md91:E.mode 91=.fK
 ZO:E.hspec 114=none
 Xi:E.spec 114=none
 aaC:E.fn 114=some (aA Tryz.f114)
 YT:E.mode 114=.fK
 hs60:E.hspec 60=none
 sp60:E.spec 60=none
 fn60:E.fn 60=some (aA Tryz.f60)
 md60:E.mode 60=.fK
 hs59:E.hspec 59=none
 sp59:E.spec 59=none
 fn59:E.fn 59=some (aA Tryz.f59)
 md59:E.mode 59=.fK
 ZR:E.hspec 111=none
 Xl:E.spec 111=none
 aaF:E.fn 111=some (aA Tryz.f111)
 YW:E.mode 111=.fK
 hs67:E.hspec 67=none
 sp67:E.spec 67=none
 fn67:E.fn 67=some (aA Tryz.f67)
 md67:E.mode 67=.shared
 hs12:E.hspec 12=none
 Of:E.spec 12=none
 fn12:E.fn 12=some (aA Tryz.f12)
 md12:E.mode 12=.fK
 Zj:E.hspec 232=none
 WJ:E.spec 232=none
 Z_:E.fn 232=some (aA Tryz.f232)
 Yq:E.mode 232=.fK
 Ze:E.hspec 262=none
 WD:E.spec 262=none
 Z5:E.fn 262=some (aA Tryz.f262)
 Yl:E.mode 262=.fK
 Zi:E.hspec 233=none
 WI:E.spec 233=none
 Z9:E.fn 233=some (aA Tryz.f233)
 Yp:E.mode 233=.fK
 Zf:E.hspec 261=none
 WE:E.spec 261=none
 Z6:E.fn 261=some (aA Tryz.f261)
 Ym:E.mode 261=.fK
 Zs:E.hspec 193=none
 WT:E.spec 193=none
 aai:E.fn 193=some (aA Tryz.f193)
 Yz:E.mode 193=.fK
 Zx:E.hspec 177=none
 WY:E.spec 177=none
 aam:E.fn 177=some (aA Tryz.f177)
 YD:E.mode 177=.fK
 ZG:E.hspec 144=none
 Xa:E.spec 144=none
 aau:E.fn 144=some (aA Tryz.f144)
 YL:E.mode 144=.fK
 Zw:E.hspec 178=none
 WX:E.spec 178=none
 aal:E.fn 178=some (aA Tryz.f178)
 YC:E.mode 178=.fK
 Zr:E.hspec 206=none
 WS:E.spec 206=none
 aah:E.fn 206=some (aA Tryz.f206)
 Yy:E.mode 206=.fK
 Zz:E.hspec 175=none
 W4:E.spec 175=none
 aao:E.fn 175=some (aA Tryz.f175)
 YF:E.mode 175=.fK
 Zp:E.hspec 208=none
 WQ:E.spec 208=none
 aaf:E.fn 208=some (aA Tryz.f208)
 Yw:E.mode 208=.fK
 Zo:E.hspec 209=none
 WO:E.spec 209=none
 aae:E.fn 209=some (aA Tryz.f209)
 Yv:E.mode 209=.fK
 Zy:E.hspec 176=none
 WZ:E.spec 176=none
 aan:E.fn 176=some (aA Tryz.f176)
 YE:E.mode 176=.fK
 Zn:E.hspec 210=none
 WN:E.spec 210=none
 aad:E.fn 210=some (aA Tryz.f210)
 Yu:E.mode 210=.fK
 Zm:E.hspec 211=none
 WM:E.spec 211=none
 aac:E.fn 211=some (aA Tryz.f211)
 Yt:E.mode 211=.fK
 ZH:E.hspec 143=none
 Xb:E.spec 143=none
 aav:E.fn 143=some (aA Tryz.f143)
 YM:E.mode 143=.fK
 ZN:E.hspec 115=none
 Xh:E.spec 115=none
 aaB:E.fn 115=some (aA Tryz.f115)
 YS:E.mode 115=.fK
 ZD:E.hspec 152=none
 W8:E.spec 152=none
 aar:E.fn 152=some (aA Tryz.f152)
 YI:E.mode 152=.fK
 ZC:E.hspec 153=none
 W7:E.spec 153=none
 aaq:E.fn 153=some (aA Tryz.f153)
 YH:E.mode 153=.fK
 ZB:E.hspec 154=none
 W6:E.spec 154=none
 aap:E.fn 154=some (aA Tryz.f154)
 YG:E.mode 154=.fK
 ZM:E.hspec 116=none
 Xg:E.spec 116=none
 aaA:E.fn 116=some (aA Tryz.f116)
 YR:E.mode 116=.fK
 hs61:E.hspec 61=none
 sp61:E.spec 61=none
 fn61:E.fn 61=some (aA Tryz.f61)
 md61:E.mode 61=.fK
 Zg:E.hspec 260=none
 WG:E.spec 260=none
 Z7:E.fn 260=some (aA Tryz.f260)
 Yn:E.mode 260=.fK
 Zd:E.hspec 296=none
 WC:E.spec 296=none
 Z4:E.fn 296=some (aA Tryz.f296)
 Yk:E.mode 296=.fK
 Zc:E.hspec 317=none
 WA:E.spec 317=none
 Z3:E.fn 317=some (aA Tryz.f317)
 Yj:E.mode 317=.fK
 hs76:E.hspec 76=none
 sp76:E.spec 76=none
 fn76:E.fn 76=some (aA Tryz.f76)
 md76:E.mode 76=.fK
 hs74:E.hspec 74=none
 sp74:E.spec 74=none
 fn74:E.fn 74=some (aA Tryz.f74)
 md74:E.mode 74=.fK
 Zq:E.hspec 207=none
 WR:E.spec 207=none
 aag:E.fn 207=some (aA Tryz.f207)
 Yx:E.mode 207=.fK
 Zh:E.hspec 246=none
 WH:E.spec 246=none
 Z8:E.fn 246=some (aA Tryz.f246)
 Yo:E.mode 246=.fK
 hs94:E.hspec 94=none
 sp94:E.spec 94=none
 fn94:E.fn 94=some (aA Tryz.f94)
 md94:E.mode 94=.fK
 ZJ:E.hspec 128=none
 Xd:E.spec 128=none
 aax:E.fn 128=some (aA Tryz.f128)
 YO:E.mode 128=.fK
 hs85:E.hspec 85=none
 sp85:E.spec 85=none
 fn85:E.fn 85=some (aA Tryz.f85)
 md85:E.mode 85=.shared
 ZK:E.hspec 118=none
 Xe:E.spec 118=none
 aay:E.fn 118=some (aA Tryz.f118)
 YP:E.mode 118=.shared
 Zv:E.hspec 179=none
 WW:E.spec 179=some lQ
 ZA:E.hspec 155=none
 W5:E.spec 155=some pB
 PK:E.hspec 73=some (pP 9)
 VD:aO E (cutAt [1,1,0,1,2,2,1,0,2,1] (aA Tryz.f222).code)=true
 VE:aO E (cutAt [1,0,1,2,2,1,0,2,0] (aA Tryz.f151).code)=true
 TY:fT E (opsOf (cutAt [1,0] (aA Tryz.f150).code))=.no
 US:cJ E .no (opsOf (cutAt [1,0] (aA Tryz.f150).code))=some [⟨2,4,true,false⟩,  ⟨2,7,true,false⟩,  ⟨2,10,true,false⟩,  ⟨5,7,true,false⟩,  ⟨5,10,true,false⟩,  ⟨8,10,true,false⟩]
 TX:fT E (opsOf (cutAt [1,1,0,1,2,2,1,0,2,1] (aA Tryz.f150).code))=.no
 UR:cJ E .no (opsOf (cutAt [1,1,0,1,2,2,1,0,2,1] (aA Tryz.f150).code))=some [⟨7,10,true,false⟩,  ⟨7,14,true,false⟩,  ⟨8,10,true,false⟩,  ⟨8,14,true,false⟩]
 SZ:aO E (cutAt [1,1,1,0,1,2,2,1,0,2,1,1,0,1,2,2,1,0,2,0] (aA Tryz.f112).code)=true
 SY:aO E (cutAt [1,1,1,1,0,1,2,2,1,0,2,0] (aA Tryz.f112).code)=true
 Vz:aO E (cutAt [1,1,1,1,0,1,2,2,1,0,2,1,2,2,1,0,2,1,2,2,1,0,2] (aA Tryz.f91).code)=true
 VL:aO E (cutAt [1,1,1,1,0,1,2,2,1,0,2,0] (aA Tryz.f114).code)=true
 SX:aO E (cutAt [1,1,1,1,1,1,1,1,1,1,1,1,1,1,0,1,2,2,1,0,2,1,0,1,2,2,1,0,2,0] (aA Tryz.f114).code)=true
 aa5:aO E (cutAt [1,0,1,2,2,1,0,2,1,1,0,0] (aA Tryz.f60).code)=true
 VC:aO E (cutAt [1,1,1,0,1,2,2,1,0,2,1,1,1,0,0] (aA Tryz.f60).code)=true
 VB:aO E (cutAt [1,1,1,1,0,1,2,2,1,0,2,1,2,2,1,1,0,2,1,1,0,0] (aA Tryz.f60).code)=true
 VA:aO E (cutAt [1,1,1,1,1,0,1,1,0,0] (aA Tryz.f60).code)=true
 T1:fT E (opsOf (cutAt [1,0] (aA Tryz.f111).code))=.no
 UW:cJ E .no (opsOf (cutAt [1,0] (aA Tryz.f111).code))=some [⟨1,31,false,true⟩,  ⟨3,31,false,true⟩,  ⟨5,31,false,true⟩,  ⟨6,31,false,true⟩,  ⟨8,31,false,true⟩,  ⟨10,31,false,true⟩,  ⟨12,31,false,true⟩,  ⟨13,31,false,true⟩,  ⟨15,31,false,true⟩,  ⟨17,31,false,true⟩,  ⟨19,31,false,true⟩,  ⟨20,31,false,true⟩,  ⟨22,31,false,true⟩,  ⟨24,31,false,true⟩,  ⟨26,31,false,true⟩,  ⟨27,31,false,true⟩,  ⟨29,31,false,true⟩]
 T0:fT E (opsOf (cutAt [1,1,1,0,1,2,2,1,1,0,2,1] (aA Tryz.f111).code))=.no
 UU:cJ E .no (opsOf (cutAt [1,1,1,0,1,2,2,1,1,0,2,1] (aA Tryz.f111).code))=some [⟨4,38,false,true⟩,  ⟨33,38,false,true⟩,  ⟨35,38,false,true⟩]
 Wh:fT E (opsOf (cutAt [1,0] (aA Tryz.f67).code))=.app
 X0:cJ E .app (opsOf (cutAt [1,0] (aA Tryz.f67).code))=some [⟨1,12,false,true⟩,  ⟨3,12,false,true⟩,  ⟨4,12,false,true⟩,  ⟨6,12,false,true⟩,  ⟨7,12,false,true⟩,  ⟨9,12,false,true⟩,  ⟨10,12,false,true⟩]
 Wg:fT E (opsOf (cutAt [1,1,0,1,2,2,1,0,2,1,0] (aA Tryz.f67).code))=.app
 XZ:cJ E .app (opsOf (cutAt [1,1,0,1,2,2,1,0,2,1,0] (aA Tryz.f67).code))=some []
 Wr:fT E (opsOf (cutAt [1,1,0,1,2,2,1,1,0,2,1,0] (aA Tryz.f12).code))=.lit
 X_:cJ E .lit (opsOf (cutAt [1,1,0,1,2,2,1,1,0,2,1,0] (aA Tryz.f12).code))=some [⟨1,2,true,false⟩]
 VK:aO E (cutAt [1,0,1,2,2,1,1,0,2,1,1,1,0,0] (aA Tryz.f115).code)=true
 SU:aO E (cutAt [1,1,1,1,0,1,2,2,1,1,0,2,1,1,0,1,0,0] (aA Tryz.f115).code)=true
 SQ:aO E (cutAt [1,1,1,1,1,0,1,2,2,1,1,0,2,1,1,0,0] (aA Tryz.f115).code)=true
 QT:fT E (opsOf (cutAt [1,1,1,1,0,1,2,2,1,1,0,2,1,1,1,1] (aA Tryz.f154).code))=.no
 RE:cJ E .no (opsOf (cutAt [1,1,1,1,0,1,2,2,1,1,0,2,1,1,1,1] (aA Tryz.f154).code))=some [⟨2,4,false,true⟩]
 aa4:aO E (cutAt [1,1,0,1,1,0,0] (aA Tryz.f61).code)=true
 VJ:aO E (cutAt [1,1,0,1,2,2,1,0,2,0] (aA Tryz.f118).code)=true
 SP:aO E (cutAt [1,1,0,1,2,2,1,0,2,1,0,1,0,1,2,2,1,0,2,0] (aA Tryz.f118).code)=true
def aQ:Lay bH:=⟨λr s=>r=[.str s],1,λ_ _ h=>by rw[h];rfl,λ_ _ h c hc=>by rw[h]at hc;cases hc with | head=>rfl | tail _ h=>cases h⟩
def fQ:Lay Step:=⟨λr x=>∃a l,r=[.str x.out,.int .i64 x.op,a,l,.int .i64 x.n]/\IS aQ a x.args/\IS aQ l x.lits,5,λ_ _ ⟨_,_,h,_⟩=>by rw[h];rfl,λ_ _ ⟨a,l,h,h1,h2⟩ c hc=>by
 rw[h]at hc
 simp only[IN,ck,fh]at hc
 rcases hc with rfl | rfl | rfl | rfl | rfl
 ·rfl
 ·rfl
 ·exact h1.bF
 ·exact h2.bF
 ·rfl⟩
def dO:Lay aD:=⟨λr x=>∃i o a s,r=[.str x.name,i,o,a,s]/\IS aQ i x.ins/\IS aQ o x.outs/\IS aQ a x.after/\IS fQ s x.steps,5,λ_ _ ⟨_,_,_,_,h,_⟩=>by rw[h];rfl,λ_ _ ⟨i,o,a,s,h,h1,h2,h3,h4⟩ c hc=>by
 rw[h]at hc
 simp only[IN,ck,fh]at hc
 rcases hc with rfl | rfl | rfl | rfl | rfl
 ·rfl
 ·exact h1.bF
 ·exact h2.bF
 ·exact h3.bF
 ·exact h4.bF⟩
def fN:Lay Bool:=⟨λr b=>r=[.bool b],1,λ_ _ h=>by rw[h];rfl,λ_ _ h c hc=>by rw[h]at hc;cases hc with | head=>rfl | tail _ h=>cases h⟩
def pZ:Lay (List Bool):=⟨λr l=>∃v,r=[v]/\IS fN v l,1,λ_ _ ⟨_,h,_⟩=>by rw[h];rfl,λ_ _ ⟨v,h,h1⟩ c hc=>by rw[h]at hc;cases hc with | head=>exact h1.bF | tail _ h=>cases h⟩
section
variable {E:Env}{Z:Sg}{v:V}
theorem gC (h:bK E) {s:bH}{Z:Sg}:lenOf E Z 9 (.str s)=some s.length:=by
 unfold lenOf;rw[h.c_]
theorem IS.at {α:Type}{L:Lay α}{ts t:Nat}{si ei:Ty}{l:List α}(hts:E.ty ts=some si)(hk:si.kd=.sl t)(ht:E.ty t=some ei)(hn:ei.size=L.n)(h:IS L v l) {i:Nat}{x:α}(hx:l[i]?=some x) :
  ∃g r,indexAddr E ts v (.int .i64 (i:Int))=some (.cL g r)/\L.P r x:=by
 obtain⟨p,r,h1,h2,-,-,⟨g,rfl⟩ | ⟨b,o,rfl,-⟩⟩:=DJ (Z:=[]) hts hk ht hn (h.ls [] t) hx
 ·exact⟨g,r,h1,h2⟩
 ·exfalso
  rcases h with⟨rfl,rfl⟩ | ⟨g,rs,full,rfl,ha⟩
  ·cases hx
  ·unfold indexAddr at h1
   repeat' (split at h1)
   all_goals first
    |(cases h1;done)
    |contradiction
theorem iI (h:bK E):fA E #[24,24]=true:=by
 show (match E.ty 24 with
  |some xi=>!oC xi.kd
  |none=>false)=true
 rw[h.bC];rfl
theorem bU (h:bK E) {l} (ia:IS aQ v l) (Z:Sg):lenOf E Z 24 v=some l.length:=mZ h.bC rfl (ia.ls Z 9)
theorem To (h:bK E) {l} (ia:IS aQ v l) {i:Nat} {x}(hx:l[i]?=some x):∃g r,indexAddr E 24 v (.int .i64 (i:Int))=some (.cL g r)/\(aQ).P r x:=IS.at h.bC rfl h.c_ rfl ia hx
theorem kD (h:bK E) {l}(ha:LS aQ 9 Z v l):∃v',aT Z E.ty true v=some v'/\IS aQ v' l:=BH h.c_ rfl ha
theorem A1 (h:bK E):fA E #[44,44]=true:=by
 show (match E.ty 44 with
  |some xi=>!oC xi.kd
  |none=>false)=true
 rw[h.gA];rfl
theorem lS (h:bK E) {l} (ia:IS fQ v l) (Z:Sg):lenOf E Z 44 v=some l.length:=mZ h.gA rfl (ia.ls Z 113)
theorem QA (h:bK E) {l} (ia:IS fQ v l) {i:Nat} {x}(hx:l[i]?=some x):∃g r,indexAddr E 44 v (.int .i64 (i:Int))=some (.cL g r)/\(fQ).P r x:=IS.at h.gA rfl h.bR rfl ia hx
theorem Co (h:bK E) {l}(ha:LS fQ 113 Z v l):∃v',aT Z E.ty true v=some v'/\IS fQ v' l:=BH h.bR rfl ha
theorem qB (h:bK E):fA E #[22,22]=true:=by
 show (match E.ty 22 with
  |some xi=>!oC xi.kd
  |none=>false)=true
 rw[h.xP];rfl
theorem cZ (h:bK E) {l} (ia:IS dO v l) (Z:Sg):lenOf E Z 22 v=some l.length:=mZ h.xP rfl (ia.ls Z 46)
theorem QB (h:bK E) {l} (ia:IS dO v l) {i:Nat} {x}(hx:l[i]?=some x):∃g r,indexAddr E 22 v (.int .i64 (i:Int))=some (.cL g r)/\(dO).P r x:=IS.at h.xP rfl h.bM rfl ia hx
theorem eJ (h:bK E) {l}(ha:LS dO 46 Z v l):∃v',aT Z E.ty true v=some v'/\IS dO v' l:=BH h.bM rfl ha
theorem A2 (h:bK E):fA E #[99,99]=true:=by
 show (match E.ty 99 with
  |some xi=>!oC xi.kd
  |none=>false)=true
 rw[h.oB];rfl
theorem QD (h:bK E) {l} (ia:IS fN v l) {i:Nat} {x}(hx:l[i]?=some x):∃g r,indexAddr E 99 v (.int .i64 (i:Int))=some (.cL g r)/\(fN).P r x:=IS.at h.oB rfl h.tR rfl ia hx
theorem Ju (h:bK E):fA E #[61,61]=true:=by
 show (match E.ty 61 with
  |some xi=>!oC xi.kd
  |none=>false)=true
 rw[h.tQ];rfl
theorem Pt (h:bK E) {l} (ia:IS pZ v l) (Z:Sg):lenOf E Z 61 v=some l.length:=mZ h.tQ rfl (ia.ls Z 99)
theorem LR (h:bK E) {l} (ia:IS pZ v l) {i:Nat} {x}(hx:l[i]?=some x):∃g r,indexAddr E 61 v (.int .i64 (i:Int))=some (.cL g r)/\(pZ).P r x:=IS.at h.tQ rfl h.oB rfl ia hx
theorem uH (h:bK E) {g:Bool}{u:V}{r:List V}:loadAt E Z 4 (.cL g (u::r))=some u:=by
 unfold loadAt
 rw[h.tR]
 rfl
theorem sJ (h:bK E) {g:Bool}{u:V}{r:List V}:loadAt E Z 9 (.cL g (u::r))=some u:=by
 unfold loadAt
 rw[h.c_]
 rfl
theorem Lg (h:bK E) {g:Bool}{u:V}{r:List V}:loadAt E Z 24 (.cL g (u::r))=some u:=by
 unfold loadAt
 rw[h.bC]
 rfl
theorem TH (h:bK E) {g:Bool}{v0 v1 v2 v3 v4:V}:loadAt E Z 46 (.cL g [v0,v1,v2,v3,v4])=some (.agg [v0,v1,v2,v3,v4]):=by
 unfold loadAt
 rw[h.bM]
 rfl
theorem mU (h:bK E) {g:Bool}{u:V}{r:List V}:loadAt E Z 99 (.cL g (u::r))=some u:=by
 unfold loadAt
 rw[h.oB]
 rfl
theorem lN:Ax.bytes ⟨#[]⟩=[]:=rfl
theorem M8:Ax.bytes ⟨#[46]⟩=[46]:=rfl
theorem S4:Ax.bytes ⟨#[46,46]⟩=[46,46]:=rfl
theorem Dz:Ax.bytes ⟨#[114,117,108,101]⟩=[114,117,108,101]:=rfl
theorem Gn:Ax.bytes ⟨#[105,110]⟩=[105,110]:=rfl
theorem J0:Ax.bytes ⟨#[111,117,116]⟩=[111,117,116]:=rfl
theorem P5:Ax.bytes ⟨#[97,102,116,101,114]⟩=[97,102,116,101,114]:=rfl
theorem g_ (h:bK E) {l} (ia:IS aQ v l) {i:Nat} {x}(hx:l[i]?=some x):∃g,indexAddr E 24 v (.int .i64 (i:Int))=some (.cL g [.str x]):=by
 obtain⟨g,r,e,hr⟩:=To h ia hx
 exact⟨g,by rw[e,show r=[.str x] from hr]⟩
theorem vJ (h:bK E) {l} (ia:IS fQ v l) {i:Nat} {x}(hx:l[i]?=some x):∃g a b,indexAddr E 44 v (.int .i64 (i:Int))=some (.cL g [.str x.out,.int .i64 x.op,a,b,.int .i64 x.n])/\IS aQ a x.args/\IS aQ b x.lits:=by
 obtain⟨g,r,e,a,b,hr,h1,h2⟩:=QA h ia hx
 exact⟨g,a,b,by rw[e,hr],h1,h2⟩
theorem eH (h:bK E) {l} (ia:IS dO v l) {i:Nat} {x}(hx:l[i]?=some x):∃g a b c d,indexAddr E 22 v (.int .i64 (i:Int))=some (.cL g [.str x.name,a,b,c,d])/\IS aQ a x.ins/\IS aQ b x.outs/\IS aQ c x.after/\IS fQ d x.steps:=by
 obtain⟨g,r,e,a,b,c,d,hr,h1⟩:=QB h ia hx
 exact⟨g,a,b,c,d,by rw[e,hr],h1⟩
theorem dM (Z:Sg) (s:bH):aT Z E.ty true (.str s)=some (.str s):=rfl
theorem pE {α:Type}{L:Lay α}{l:List α} (ia:IS L v l) (Z:Sg):aT Z E.ty true v=some v:=cN ia.bF (bZ ia.bF)
def IP (v:V) (x:aD):Prop:=∃a b c d,v=.agg [.str x.name,a,b,c,d]/\IS aQ a x.ins/\IS aQ b x.outs/\IS aQ c x.after/\IS fQ d x.steps
def NA (v:V) (x:Step):Prop:=∃a b,v=.agg [.str x.out,.int .i64 x.op,a,b,.int .i64 x.n]/\IS aQ a x.args/\IS aQ b x.lits
theorem G5 {cs:List V}(hc:∀c∈cs,Ax.bF c=true) (Z:Sg):aT Z E.ty true (.agg cs)=some (.agg cs):=by
 have e:aW (aT.one Z E.ty true) cs=some cs:=gH λc hx=>by
  have:=cN (Z:=Z) (ty:=E.ty) (g:=true) (hc c hx) (bZ (hc c hx))
  have h2:=hc c hx
  cases c <;> first | exact this | cases h2
 show (match aW (aT.one Z E.ty true) cs with
  |some l=>some (V.agg l)
  |none=>none)=_
 rw[e]
theorem IP.snap {x:aD}(h:IP v x) (Z:Sg):aT Z E.ty true v=some v:=by
 obtain⟨a,b,c,d,rfl,h1,h2,h3,h4⟩:=h
 refine G5 (λy hy=>?_) Z
 simp only[IN,ck,fh]at hy
 rcases hy with rfl | rfl | rfl | rfl | rfl
 ·rfl
 ·exact h1.bF
 ·exact h2.bF
 ·exact h3.bF
 ·exact h4.bF
theorem NA.snap {x:Step}(h:NA v x) (Z:Sg):aT Z E.ty true v=some v:=by
 obtain⟨a,b,rfl,h1,h2⟩:=h
 refine G5 (λy hy=>?_) Z
 simp only[IN,ck,fh]at hy
 rcases hy with rfl | rfl | rfl | rfl | rfl
 ·rfl
 ·rfl
 ·exact h1.bF
 ·exact h2.bF
 ·rfl
theorem iS {a b:bH} (e:a=b):Ax.seq a b=true:=by rw[vA];exact AT e
theorem gU {a b:bH} (e:a≠b):Ax.seq a b=false:=by rw[vA];exact AS e
theorem dG {i n:Nat}(h:i<n):decide ((i:Int)<(n:Int))=true:=AT (by omega)
theorem dH {i n:Nat}(h:¬ i<n):decide ((i:Int)<(n:Int))=false:=AS (by omega)
theorem bQ (i:Nat)(h:i<9223372036854775807):wr .i64 ((i:Int)+1)=((i+1:Nat):Int):=by
 rw[zS,bf]
 ·exact (Int.natCast_succ i).symm
 ·have h1:lo .i64 = -9223372036854775808:=rfl
  have h2:hi .i64=9223372036854775807:=rfl
  rw[h1,h2,aj,OF,OF]
  omega
structure Small (x:aD):Prop where
 ins:x.ins.length<=10
 outs:x.outs.length<=6
 after:x.after.length<=10
 steps:x.steps.length<=14
 args:∀s∈x.steps,s.args.length<=8
 lits:∀s∈x.steps,s.lits.length<=3
structure Mid (x:aD):Prop where
 ins:x.ins.length<=10
 outs:x.outs.length<=6
 after:x.after.length<=10
 steps:x.steps.length<=14
 args:∀s∈x.steps,s.args.length<=8796093022208
 lits:∀s∈x.steps,s.lits.length<=8796093022208
theorem Small.mid {x:aD}(h:Small x):Mid x:=⟨h.ins,h.outs,h.after,h.steps,λs hs=>by have:=h.args s hs;omega,λs hs=>by have:=h.lits s hs;omega⟩
def idx:Option Nat->Int
 |some i=>i
 |none=>-1
theorem dS {α:Type}{p:α->Bool}:∀{l:List α},(∀x∈l,p x=false)->bI p l=none
 | [],_=>rfl
 |x::l,h=>by rw[bI,h x (By ..),dS λy hy=>h y (No _ hy)];rfl
theorem fP {α:Type}{p:α->Bool}:∀{l:List α}{i:Nat}{x:α},(∀j y,j<i->l[j]?=some y->p y=false)->l[i]?=some x->p x=true->bI p l=some i
 | [],i,x,_,hx,_=>by cases hx
 |y::l,0,x,_,hx,hp=>by cases hx;rw[bI,bf hp]
 |y::l,i+1,x,h,hx,hp=>by
  rw[bI,az (by rw[h 0 y (by omega) rfl];simp),fP (i:=i) (x:=x) (λj z hj hz=>h (j+1) z (by omega) hz) hx hp]
  rfl
theorem AM {α:Type}{p:α->Bool}{l:List α}(h:∀j y,j<l.length->l[j]?=some y->p y=true):l.all p=true:=by
 rw[er];intro x hx
 obtain⟨i,hi,e⟩:=ez hx
 exact h i x hi (by rw[BY hi,e])
theorem iK {α:Type}{p:α->Bool}{l:List α}{i:Nat}{x:α}(hx:l[i]?=some x)(hp:p x=false):l.all p=false:=by
 rw[List.all_eq_false];exact⟨x,aa hx,by simp[hp]⟩
end
end
section
section
variable {E:Env}{Z:Sg}{K:V->Sg->Prop}
theorem Qt (h:bK E) {a:V}{l:List bH}{s:bH}(ha:LS aQ 9 Z a l)(hsm:l.length<=4294967296):aB E 95 [a,.str s] Z K=K (.int .i64 (idx (bI (λx=>decide (x=s)) l))) Z:=by
 refine aB.of ?_
 obtain⟨a',ea,ia⟩:=kD h ha
 rw[aI h.hs95 h.sp95 h.fn95 h.md95 (args':=[a',.str s]) (by simp only[aW,ea,dM]),aY (by kernel_rfl)]
 simp only[aA,Tryz.f95,KP,↓reduceIte,reduceLT,reduceAdd,reduceNeg]
 have la:=bU h ia
 refine aS (λi F Y=>Y=[]/\F.get 0=a'/\F.get 1=.str s/\F.get 5=.int .i64 (i:Int)/\∀j y,j<i->l[j]?=some y->y≠s) l.length ?_ ?_ l.length 0 _ _ (by omega) ⟨rfl,(fJ (by simp +decide only[GS,ag]) (λj y hj=>by omega))⟩
 ·rintro i F Y hi ⟨rfl,g0,g1,g5,hp⟩ next
  obtain⟨x,hx⟩:∃x,l[i]?=some x:=⟨_,BY hi⟩
  obtain⟨g,e1⟩:=g_ h ia hx
  have hlt:=dG hi
  have hadd:=bQ i (by omega)
  rw[aC]
  by_cases hxs:x=s
  ·have hs:=iS hxs
   simp only[KP,Ax.loadAt,↓reduceIte,reduceEqDiff,reduceLT,reduceCtorEq,reduceNeg,h.c_,g0,g1,g5,la,hlt,e1,hs]
   rw[fP (i:=i) (x:=x) (λj y hj hy=>AS (hp j y hj hy)) hx (AT hxs)]
   exact rfl
  ·have hs:=gU hxs
   simp only[KP,Ax.loadAt,↓reduceIte,reduceEqDiff,reduceLT,reduceCtorEq,reduceNeg,h.c_,g0,g1,g5,la,hlt,e1,hs,hadd]
   refine next _ _ ⟨rfl,(fJ (by simp +decide only[GS,g0,g1,ag]) (λj y hj hy=>?_))⟩
   rcases bz j i with g | g
   ·exact hp j y g hy
   ·obtain rfl:j=i:=by omega
    rw[hx]at hy;cases hy;exact hxs
 ·rintro F Y ⟨rfl,g0,g1,g5,hp⟩
  have hlt:=dH (b9 l.length)
  rw[aC]
  simp only[KP,↓reduceIte,reduceEqDiff,reduceLT,reduceCtorEq,reduceNeg,g0,g5,la,hlt]
  rw[dS λx hx=>by
   obtain⟨j,hj,e⟩:=ez hx
   exact AS (hp j x hj (by rw[BY hj,e]))]
  exact rfl
theorem sK (h:bK E) {a:V}{l:List bH}{s:bH}(ha:LS aQ 9 Z a l)(hsm:l.length<=4294967296):KC E 95 [a,.str s] Z ((.int .i64 (idx (bI (λx=>decide (x=s)) l)))) Z:=cU λ_=>Qt h ha hsm
theorem abr (h:bK E) {a:V}{l:List aD}{s:bH}(ha:LS dO 46 Z a l)(hsm:l.length<=4294967296):aB E 90 [a,.str s] Z K=K (.int .i64 (idx (gB l s))) Z:=by
 refine aB.of ?_
 obtain⟨a',ea,ia⟩:=eJ h ha
 rw[aI h.hs90 h.sp90 h.fn90 h.md90 (args':=[a',.str s]) (by simp only[aW,ea,dM]),aY (by kernel_rfl)]
 simp only[aA,Tryz.f90,KP,↓reduceIte,reduceLT,reduceAdd,reduceNeg]
 have la:=cZ h ia
 refine aS (λi F Y=>Y=[]/\F.get 0=a'/\F.get 1=.str s/\F.get 5=.int .i64 (i:Int)/\∀j y,j<i->l[j]?=some y->y.name≠s) l.length ?_ ?_ l.length 0 _ _ (by omega) ⟨rfl,(fJ (by simp +decide only[GS,ag]) (λj y hj=>by omega))⟩
 ·rintro i F Y hi ⟨rfl,g0,g1,g5,hp⟩ next
  obtain⟨x,hx⟩:∃x,l[i]?=some x:=⟨_,BY hi⟩
  obtain⟨g,a1,a2,a3,a4,e1,-⟩:=eH h ia hx
  have hlt:=dG hi
  have hadd:=bQ i (by omega)
  rw[aC]
  by_cases hxs:x.name=s
  ·have hs:=iS hxs
   simp only[KP,Ax.loadAt,↓reduceIte,reduceEqDiff,reduceLT,reduceCtorEq,reduceNeg,h.c_,h.bM,g0,g1,g5,la,hlt,e1,hs]
   rw[show gB l s=some i from fP (i:=i) (x:=x) (λj y hj hy=>AS (hp j y hj hy)) hx (AT hxs)]
   exact rfl
  ·have hs:=gU hxs
   simp only[KP,Ax.loadAt,↓reduceIte,reduceEqDiff,reduceLT,reduceCtorEq,reduceNeg,h.c_,h.bM,g0,g1,g5,la,hlt,e1,hs,hadd]
   refine next _ _ ⟨rfl,(fJ (by simp +decide only[GS,g0,g1,ag]) (λj y hj hy=>?_))⟩
   rcases bz j i with g | g
   ·exact hp j y g hy
   ·obtain rfl:j=i:=by omega
    rw[hx]at hy;cases hy;exact hxs
 ·rintro F Y ⟨rfl,g0,g1,g5,hp⟩
  have hlt:=dH (b9 l.length)
  rw[aC]
  simp only[KP,↓reduceIte,reduceEqDiff,reduceLT,reduceCtorEq,reduceNeg,g0,g5,la,hlt]
  rw[show gB l s=none from dS λx hx=>by
   obtain⟨j,hj,e⟩:=ez hx
   exact AS (hp j x hj (by rw[BY hj,e]))]
  exact rfl
theorem Vm (h:bK E) {a:V}{l:List aD}{s:bH}(ha:LS dO 46 Z a l)(hsm:l.length<=4294967296):KC E 90 [a,.str s] Z ((.int .i64 (idx (gB l s)))) Z:=cU λ_=>abr h ha hsm
theorem kS {o:Option Nat}:decide ((0:Int)<=idx o)=o.isSome:=by
 cases o with
 |none=>rfl
 |some i=>exact AT (by simp only[idx];omega)
theorem Dc {o:Option Nat}:decide (idx o<(0:Int))=o.isNone:=by
 cases o with
 |none=>rfl
 |some i=>exact AS (by simp only[idx];omega)
theorem cI {α:Type}{p:α->Bool}:∀{l:List α},(bI p l).isSome=l.any p
 | []=>rfl
 |x::l=>by
  rw[bI,List.any_cons]
  by_cases hx:p x=true
  ·rw[bf hx,hx];rfl
  ·rw[az hx,Option.isSome_map,cI];simp[hx]
theorem any_eq {l:List bH}{s:bH}:(l.any λx=>decide (x=s))=decide (s∈l):=by
 rw[dw,fc,OF]
 constructor
 ·rintro⟨x,hx,e⟩;rw[OF]at e;subst e;exact hx
 ·intro hx;exact⟨s,hx,by simp⟩
theorem LP (h:bK E) {a:V}{l:List aD}{s:bH}(ha:LS dO 46 Z a l)(ho:∀x∈l,x.outs.length<=4294967296)(hsm:l.length<=4294967296):aB E 113 [a,.str s] Z K=K (.int .i64 (idx (eW l s))) Z:=by
 refine aB.of ?_
 obtain⟨a',ea,ia⟩:=eJ h ha
 rw[aI h.ZP h.Xj h.aaD h.YU (args':=[a',.str s]) (by simp only[aW,ea,dM]),aY (by kernel_rfl)]
 simp only[aA,Tryz.f113,KP,↓reduceIte,reduceLT,reduceAdd,reduceNeg]
 have la:=cZ h ia
 refine aS (λi F Y=>Y=[]/\F.get 0=a'/\F.get 1=.str s/\F.get 5=.int .i64 (i:Int)/\∀j y,j<i->l[j]?=some y->s ∉ y.outs) l.length ?_ ?_ l.length 0 _ _ (by omega) ⟨rfl,(fJ (by simp +decide only[GS,ag]) (λj y hj=>by omega))⟩
 ·rintro i F Y hi ⟨rfl,g0,g1,g5,hp⟩ next
  obtain⟨x,hx⟩:∃x,l[i]?=some x:=⟨_,BY hi⟩
  obtain⟨g,a1,a2,a3,a4,e1,-,h2,-⟩:=eH h ia hx
  have kf:=λ(Y:Sg)=>sK (Z:=Y) h (s:=s) (h2.ls Y 9) (ho x (aa hx))
  have hlt:=dG hi
  have hadd:=bQ i (by omega)
  rw[aC]
  by_cases hxs:s∈x.outs
  ·have hs:(bI (λy=>decide (y=s)) x.outs).isSome=true:=by rw[cI,any_eq];exact AT hxs
   simp only[KP,Ax.loadAt,↓reduceIte,reduceEqDiff,reduceLT,reduceCtorEq,reduceNeg,h.bC,h.bM,g0,g1,g5,la,hlt,e1,kf,kS,hs]
   rw[show eW l s=some i from fP (i:=i) (x:=x) (λj y hj hy=>AS (hp j y hj hy)) hx (AT hxs)]
   exact rfl
  ·have hs:(bI (λy=>decide (y=s)) x.outs).isSome=false:=by rw[cI,any_eq];exact AS hxs
   simp only[KP,Ax.loadAt,↓reduceIte,reduceEqDiff,reduceLT,reduceCtorEq,reduceNeg,h.bC,h.bM,g0,g1,g5,la,hlt,e1,kf,kS,hs,hadd]
   refine next _ _ ⟨rfl,(fJ (by simp +decide only[GS,g0,g1,ag]) (λj y hj hy=>?_))⟩
   rcases bz j i with g | g
   ·exact hp j y g hy
   ·obtain rfl:j=i:=by omega
    rw[hx]at hy;cases hy;exact hxs
 ·rintro F Y ⟨rfl,g0,g1,g5,hp⟩
  have hlt:=dH (b9 l.length)
  rw[aC]
  simp only[KP,↓reduceIte,reduceEqDiff,reduceLT,reduceCtorEq,reduceNeg,g0,g5,la,hlt]
  rw[show eW l s=none from dS λx hx=>by
   obtain⟨j,hj,e⟩:=ez hx
   exact AS (hp j x hj (by rw[BY hj,e]))]
  exact rfl
theorem Lr (h:bK E) {a:V}{l:List aD}{s:bH}(ha:LS dO 46 Z a l)(ho:∀x∈l,x.outs.length<=4294967296)(hsm:l.length<=4294967296):KC E 113 [a,.str s] Z ((.int .i64 (idx (eW l s)))) Z:=cU λ_=>LP h ha ho hsm
end
end
section
section
variable {E:Env}{Z:Sg}{K:V->Sg->Prop}
theorem VW (h:bK E) {c:Nat}:aB E 223 [.int .u8 (c:Int)] Z K=K (.bool (sign c)) Z:=by
 refine aB.of ?_
 rw[aI h.Zk h.WK h.aaa h.Yr (args':=[.int .u8 (c:Int)]) (by simp only[aW,show aT Z E.ty true (.int .u8 (c:Int))=some (.int .u8 (c:Int)) from rfl]),aY (by kernel_rfl)]
 have hcut:(0<=c/\c<=44)\/(45<=c/\c<=45)\/(46<=c/\c<=46)\/(47<=c/\c<=47)\/(48<=c/\c<=57)\/(58<=c/\c<=64)\/(65<=c/\c<=90)\/(91<=c/\c<=94)\/(95<=c/\c<=95)\/(96<=c/\c<=96)\/(97<=c/\c<=122)\/(123<=c/\123<=c):=by omega
 rcases hcut with⟨h1,h2⟩ | ⟨h1,h2⟩ | ⟨h1,h2⟩ | ⟨h1,h2⟩ | ⟨h1,h2⟩ | ⟨h1,h2⟩ | ⟨h1,h2⟩ | ⟨h1,h2⟩ | ⟨h1,h2⟩ | ⟨h1,h2⟩ | ⟨h1,h2⟩ | ⟨h1,h2⟩
 ·rw[show sign c=false from by unfold sign;simp;omega]
  have q0:decide ((97:Int)<=(c:Int))=false:=AS (by omega)
  have q2:decide ((65:Int)<=(c:Int))=false:=AS (by omega)
  have q4:decide ((48:Int)<=(c:Int))=false:=AS (by omega)
  have q6:decide ((c:Int)=46)=false:=AS (by omega)
  have q7:decide ((c:Int)=95)=false:=AS (by omega)
  have q8:decide ((c:Int)=45)=false:=AS (by omega)
  simp only[aA,Tryz.f223,KP,↓reduceIte,reduceEqDiff,reduceLT,reduceCtorEq,q0,q2,q4,q6,q7,q8]
  exact rfl
 ·rw[show sign c=true from by unfold sign;simp;omega]
  have q0:decide ((97:Int)<=(c:Int))=false:=AS (by omega)
  have q2:decide ((65:Int)<=(c:Int))=false:=AS (by omega)
  have q4:decide ((48:Int)<=(c:Int))=false:=AS (by omega)
  have q6:decide ((c:Int)=46)=false:=AS (by omega)
  have q7:decide ((c:Int)=95)=false:=AS (by omega)
  have q8:decide ((c:Int)=45)=true:=AT (by omega)
  simp only[aA,Tryz.f223,KP,↓reduceIte,reduceEqDiff,reduceLT,reduceCtorEq,q0,q2,q4,q6,q7,q8]
  exact rfl
 ·rw[show sign c=true from by unfold sign;simp;omega]
  have q0:decide ((97:Int)<=(c:Int))=false:=AS (by omega)
  have q2:decide ((65:Int)<=(c:Int))=false:=AS (by omega)
  have q4:decide ((48:Int)<=(c:Int))=false:=AS (by omega)
  have q6:decide ((c:Int)=46)=true:=AT (by omega)
  simp only[aA,Tryz.f223,KP,↓reduceIte,reduceEqDiff,reduceLT,reduceCtorEq,q0,q2,q4,q6]
  exact rfl
 ·rw[show sign c=false from by unfold sign;simp;omega]
  have q0:decide ((97:Int)<=(c:Int))=false:=AS (by omega)
  have q2:decide ((65:Int)<=(c:Int))=false:=AS (by omega)
  have q4:decide ((48:Int)<=(c:Int))=false:=AS (by omega)
  have q6:decide ((c:Int)=46)=false:=AS (by omega)
  have q7:decide ((c:Int)=95)=false:=AS (by omega)
  have q8:decide ((c:Int)=45)=false:=AS (by omega)
  simp only[aA,Tryz.f223,KP,↓reduceIte,reduceEqDiff,reduceLT,reduceCtorEq,q0,q2,q4,q6,q7,q8]
  exact rfl
 ·rw[show sign c=true from by unfold sign;simp;omega]
  have q0:decide ((97:Int)<=(c:Int))=false:=AS (by omega)
  have q2:decide ((65:Int)<=(c:Int))=false:=AS (by omega)
  have q4:decide ((48:Int)<=(c:Int))=true:=AT (by omega)
  have q5:decide ((c:Int)<=57)=true:=AT (by omega)
  simp only[aA,Tryz.f223,KP,↓reduceIte,reduceEqDiff,reduceLT,reduceCtorEq,q0,q2,q4,q5]
  exact rfl
 ·rw[show sign c=false from by unfold sign;simp;omega]
  have q0:decide ((97:Int)<=(c:Int))=false:=AS (by omega)
  have q2:decide ((65:Int)<=(c:Int))=false:=AS (by omega)
  have q4:decide ((48:Int)<=(c:Int))=true:=AT (by omega)
  have q5:decide ((c:Int)<=57)=false:=AS (by omega)
  have q6:decide ((c:Int)=46)=false:=AS (by omega)
  have q7:decide ((c:Int)=95)=false:=AS (by omega)
  have q8:decide ((c:Int)=45)=false:=AS (by omega)
  simp only[aA,Tryz.f223,KP,↓reduceIte,reduceEqDiff,reduceLT,reduceCtorEq,q0,q2,q4,q5,q6,q7,q8]
  exact rfl
 ·rw[show sign c=true from by unfold sign;simp;omega]
  have q0:decide ((97:Int)<=(c:Int))=false:=AS (by omega)
  have q2:decide ((65:Int)<=(c:Int))=true:=AT (by omega)
  have q3:decide ((c:Int)<=90)=true:=AT (by omega)
  simp only[aA,Tryz.f223,KP,↓reduceIte,reduceEqDiff,reduceLT,reduceCtorEq,q0,q2,q3]
  exact rfl
 ·rw[show sign c=false from by unfold sign;simp;omega]
  have q0:decide ((97:Int)<=(c:Int))=false:=AS (by omega)
  have q2:decide ((65:Int)<=(c:Int))=true:=AT (by omega)
  have q3:decide ((c:Int)<=90)=false:=AS (by omega)
  have q4:decide ((48:Int)<=(c:Int))=true:=AT (by omega)
  have q5:decide ((c:Int)<=57)=false:=AS (by omega)
  have q6:decide ((c:Int)=46)=false:=AS (by omega)
  have q7:decide ((c:Int)=95)=false:=AS (by omega)
  have q8:decide ((c:Int)=45)=false:=AS (by omega)
  simp only[aA,Tryz.f223,KP,↓reduceIte,reduceEqDiff,reduceLT,reduceCtorEq,q0,q2,q3,q4,q5,q6,q7,q8]
  exact rfl
 ·rw[show sign c=true from by unfold sign;simp;omega]
  have q0:decide ((97:Int)<=(c:Int))=false:=AS (by omega)
  have q2:decide ((65:Int)<=(c:Int))=true:=AT (by omega)
  have q3:decide ((c:Int)<=90)=false:=AS (by omega)
  have q4:decide ((48:Int)<=(c:Int))=true:=AT (by omega)
  have q5:decide ((c:Int)<=57)=false:=AS (by omega)
  have q6:decide ((c:Int)=46)=false:=AS (by omega)
  have q7:decide ((c:Int)=95)=true:=AT (by omega)
  simp only[aA,Tryz.f223,KP,↓reduceIte,reduceEqDiff,reduceLT,reduceCtorEq,q0,q2,q3,q4,q5,q6,q7]
  exact rfl
 ·rw[show sign c=false from by unfold sign;simp;omega]
  have q0:decide ((97:Int)<=(c:Int))=false:=AS (by omega)
  have q2:decide ((65:Int)<=(c:Int))=true:=AT (by omega)
  have q3:decide ((c:Int)<=90)=false:=AS (by omega)
  have q4:decide ((48:Int)<=(c:Int))=true:=AT (by omega)
  have q5:decide ((c:Int)<=57)=false:=AS (by omega)
  have q6:decide ((c:Int)=46)=false:=AS (by omega)
  have q7:decide ((c:Int)=95)=false:=AS (by omega)
  have q8:decide ((c:Int)=45)=false:=AS (by omega)
  simp only[aA,Tryz.f223,KP,↓reduceIte,reduceEqDiff,reduceLT,reduceCtorEq,q0,q2,q3,q4,q5,q6,q7,q8]
  exact rfl
 ·rw[show sign c=true from by unfold sign;simp;omega]
  have q0:decide ((97:Int)<=(c:Int))=true:=AT (by omega)
  have q1:decide ((c:Int)<=122)=true:=AT (by omega)
  simp only[aA,Tryz.f223,KP,↓reduceIte,reduceEqDiff,reduceLT,reduceCtorEq,q0,q1]
  exact rfl
 ·rw[show sign c=false from by unfold sign;simp;omega]
  have q0:decide ((97:Int)<=(c:Int))=true:=AT (by omega)
  have q1:decide ((c:Int)<=122)=false:=AS (by omega)
  have q2:decide ((65:Int)<=(c:Int))=true:=AT (by omega)
  have q3:decide ((c:Int)<=90)=false:=AS (by omega)
  have q4:decide ((48:Int)<=(c:Int))=true:=AT (by omega)
  have q5:decide ((c:Int)<=57)=false:=AS (by omega)
  have q6:decide ((c:Int)=46)=false:=AS (by omega)
  have q7:decide ((c:Int)=95)=false:=AS (by omega)
  have q8:decide ((c:Int)=45)=false:=AS (by omega)
  simp only[aA,Tryz.f223,KP,↓reduceIte,reduceEqDiff,reduceLT,reduceCtorEq,q0,q1,q2,q3,q4,q5,q6,q7,q8]
  exact rfl
theorem Vk (h:bK E) {c:Nat}:KC E 223 [.int .u8 (c:Int)] Z (.bool (sign c)) Z:=cU λ_=>VW h
theorem wL (h:bK E) {v:V}{l:List bH} (ia:IS aQ v l) {b:Nat}(hb:b<=l.length):∃w,(∀Z,Ax.slice E Z 24 v none (some (.int .i64 (b:Int))) none=some w)/\IS aQ w (l.take b):=by
 obtain⟨w,h1,h2,-⟩:=Cv (lo:=none) (hi:=some (.int .i64 (b:Int))) (a:=0) (b:=b) h.bC rfl h.c_ rfl ia (.inr rfl) (.inl ⟨rfl,rfl⟩) (ij _) hb
 exact⟨w,h1,by simpa using h2⟩
theorem Cd:∀{l:List bH}{i:Nat}{x:bH},l[i]?=some x->x∈l.take i->kW l=true
 | [],i,x,hx,_=>by cases hx
 |y::l,0,x,_,h=>by simp at h
 |y::l,i+1,x,hx,h=>by
  have hx':l[i]?=some x:=hx
  rw[o8,IN]at h
  rw[kW]
  rcases h with h | h
  ·rw[AT (h ▸ aa hx')];rfl
  ·rw[Cd hx' h];simp
theorem zT:∀{l:List bH},(∀(i:Nat) (x:bH),l[i]?=some x->x ∉ l.take i)->kW l=false
 | [],_=>rfl
 |y::l,h=>by
  rw[kW,zT λi x hx hm=>h (i+1) x hx (by rw[o8];exact No _ hm)]
  rw[ou]
  refine AS λhy=>?_
  obtain⟨i,hi,e⟩:=ez hy
  exact h (i+1) y (by rw[cw,BY hi,e]) (by rw[o8];exact By ..)
theorem S9 (h:bK E) {a:V}{l:List bH}(ha:LS aQ 9 Z a l)(hsm:l.length<=4294967296):aB E 151 [a] Z K=K (.bool (kW l)) Z:=by
 refine aB.of ?_
 obtain⟨a',ea,ia⟩:=kD h ha
 rw[aI h.ZE h.W9 h.aas h.YJ (args':=[a']) (by simp only[aW,ea]),aY (by kernel_rfl)]
 simp only[aA,Tryz.f151,KP,↓reduceIte,reduceLT]
 have la:=bU h ia
 have d4:=h.VE
 simp only[aA,Tryz.f151,cutAt,an]at d4
 refine aS (λi F Y=>Y=[]/\F.get 0=a'/\F.get 3=.int .i64 (i:Int)/\∀j y,j<i->l[j]?=some y->y ∉ l.take j) l.length ?_ ?_ l.length 0 _ _ (by omega) ⟨rfl,(lV (by simp +decide only[GS,ag]) (λj y hj=>by omega))⟩
 ·rintro i F Y hi ⟨rfl,g0,g3,hp⟩ next
  obtain⟨x,hx⟩:∃x,l[i]?=some x:=⟨_,BY hi⟩
  obtain⟨g,e1⟩:=g_ h ia hx
  obtain⟨w,e2,iw⟩:=wL h ia (Nat.le_of_lt hi)
  have hlt:=dG hi
  have hadd:=bQ i (by omega)
  have kf:=λ(Y:Sg)=>sK (Z:=Y) h (s:=x) (iw.ls Y 9) (by rw[br];omega)
  rw[aC]
  by_cases hm:x∈l.take i
  ·have hs:(bI (λy=>decide (y=x)) (l.take i)).isSome=true:=by rw[cI,any_eq];exact AT hm
   simp only[KP,Ax.loadAt,↓reduceIte,reduceEqDiff,reduceLT,reduceCtorEq,h.c_,g0,g3,la,hlt,aK d4,bB,e1,e2,kf,kS,hs]
   rw[Cd hx hm]
   exact rfl
  ·have hs:(bI (λy=>decide (y=x)) (l.take i)).isSome=false:=by rw[cI,any_eq];exact AS hm
   simp only[KP,Ax.loadAt,↓reduceIte,reduceEqDiff,reduceLT,reduceCtorEq,h.c_,g0,g3,la,hlt,aK d4,bB,e1,e2,kf,kS,hs,hadd]
   refine next _ _ ⟨rfl,(lV (by simp +decide only[GS,g0,ag]) (λj y hj hy=>?_))⟩
   rcases bz j i with g | g
   ·exact hp j y g hy
   ·obtain rfl:j=i:=by omega
    rw[hx]at hy;cases hy;exact hm
 ·rintro F Y ⟨rfl,g0,g3,hp⟩
  have hlt:=dH (b9 l.length)
  rw[aC]
  simp only[KP,↓reduceIte,reduceEqDiff,reduceLT,reduceCtorEq,g0,g3,la,hlt]
  rw[zT λi x hx=>hp i x (AI.1 hx).1 hx]
  exact rfl
theorem Gd (h:bK E) {a:V}{l:List bH}(ha:LS aQ 9 Z a l)(hsm:l.length<=4294967296):KC E 151 [a] Z (.bool (kW l)) Z:=cU λ_=>S9 h ha hsm
end
end
section
section
variable {E:Env}{Z:Sg}{K:V->Sg->Prop}
theorem min2 (k:IntKind) (a b:Int):j_ false k a [.int k b]=some (if b<a then b else a):=rfl
def lC (x:Step) (A B:Int):Bool:=decide ((x.args.length:Int)=A)&&(decide ((x.lits.length:Int)=B)&&((!decide (x.op=8)||decide (x.lits.head?≠some []))&&(decide (0<=x.n)&&(decide (x.n<=2000)&&(decide (x.op=9)||decide (x.n=0))))))
theorem U1 (h:bK E) {x:Step}{a b:V} (ia:IS aQ a x.args) (ib:IS aQ b x.lits) {A B:Int}(h8:x.op=8->(x.lits.length:Int)=B->x.lits≠[]) (F:FT) (g1:F.get 1=.ref 0 0) (g3:F.get 3=.int .i64 A) (g4:F.get 4=.int .i64 B)(hk:K (.bool (lC x A B)) [.cells 113 [.str x.out,.int .i64 x.op,a,b,.int .i64 x.n] true]) :
  R E (cutAt [1,1,1,1] (aA Tryz.f184).code) [] ⟨85,F⟩ [.cells 113 [.str x.out,.int .i64 x.op,a,b,.int .i64 x.n] true] (mS E (aA Tryz.f184).results K):=by
 have la:=bU h ia
 have lb:=bU h ib
 unfold lC at hk
 by_cases p1:(x.args.length:Int)=A
 case neg=>
  have q1:decide ((x.args.length:Int)=A)=false:=AS p1
  rw[q1]at hk
  simp only[aA,Tryz.f184,KP,Ax.loadAt,↓reduceIte,reduceEqDiff,reduceLT,reduceCtorEq,h.bC,h.bR,cutAt,g1,g3,la,q1]
  exact hk
 have q1:decide ((x.args.length:Int)=A)=true:=AT p1
 by_cases p2:(x.lits.length:Int)=B
 case neg=>
  have q2:decide ((x.lits.length:Int)=B)=false:=AS p2
  rw[q1,q2]at hk
  simp only[aA,Tryz.f184,KP,Ax.loadAt,↓reduceIte,reduceEqDiff,reduceLT,reduceCtorEq,h.bC,h.bR,cutAt,g1,g3,g4,la,lb,q1,q2]
  exact hk
 have q2:decide ((x.lits.length:Int)=B)=true:=AT p2
 have rest:∀(q3:(!decide (x.op=8)||decide (x.lits.head?≠some []))=true) (e:x.op=8->∃g y,indexAddr E 24 b (.int .i64 0)=some (.cL g [.str y])/\Ax.seq y []=false),R E (cutAt [1,1,1,1] (aA Tryz.f184).code) [] ⟨85,F⟩ [.cells 113 [.str x.out,.int .i64 x.op,a,b,.int .i64 x.n] true] (mS E (aA Tryz.f184).results K):=by
  intro q3 e
  rw[q1,q2,q3]at hk
  have tail:∀(c8:Bool),decide (x.op=8)=c8->(c8=true->∃g y,indexAddr E 24 b (.int .i64 0)=some (.cL g [.str y])/\Ax.seq y []=false)->R E (cutAt [1,1,1,1] (aA Tryz.f184).code) [] ⟨85,F⟩ [.cells 113 [.str x.out,.int .i64 x.op,a,b,.int .i64 x.n] true] (mS E (aA Tryz.f184).results K):=by
   intro c8 hc8 e
   by_cases p4:0<=x.n
   case neg=>
    have q4:decide (0<=x.n)=false:=AS p4
    rw[q4]at hk
    cases c8 with
    |false=>
     simp only[aA,Tryz.f184,KP,Ax.loadAt,↓reduceIte,reduceEqDiff,reduceLT,reduceCtorEq,h.nQ,h.bC,h.bR,cutAt,g1,g3,g4,la,lb,q1,q2,hc8,q4]
     exact hk
    |true=>
     obtain⟨g,y,e1,e2⟩:=e rfl
     simp only[aA,Tryz.f184,KP,Ax.loadAt,↓reduceIte,reduceEqDiff,reduceLT,reduceCtorEq,h.nQ,h.c_,h.bC,h.bR,lN,cutAt,g1,g3,g4,la,lb,q1,q2,hc8,q4,e1,e2]
     exact hk
   have q4:decide (0<=x.n)=true:=AT p4
   by_cases p5:x.n<=2000
   case neg=>
    have q5:decide (x.n<=2000)=false:=AS p5
    rw[q4,q5]at hk
    cases c8 with
    |false=>
     simp only[aA,Tryz.f184,KP,Ax.loadAt,↓reduceIte,reduceEqDiff,reduceLT,reduceCtorEq,h.nQ,h.bC,h.bR,cutAt,g1,g3,g4,la,lb,q1,q2,hc8,q4,q5]
     exact hk
    |true=>
     obtain⟨g,y,e1,e2⟩:=e rfl
     simp only[aA,Tryz.f184,KP,Ax.loadAt,↓reduceIte,reduceEqDiff,reduceLT,reduceCtorEq,h.nQ,h.c_,h.bC,h.bR,lN,cutAt,g1,g3,g4,la,lb,q1,q2,hc8,q4,q5,e1,e2]
     exact hk
   have q5:decide (x.n<=2000)=true:=AT p5
   rw[q4,q5]at hk
   by_cases p9:x.op=9
   ·have q9:decide (x.op=9)=true:=AT p9
    have q8:decide (x.op=8)=false:=AS (by omega)
    rw[q9]at hk
    simp only[aA,Tryz.f184,KP,Ax.loadAt,↓reduceIte,reduceEqDiff,reduceLT,reduceCtorEq,h.nQ,h.bC,h.bR,cutAt,g1,g3,g4,la,lb,q1,q2,q8,q4,q5,q9]
    exact hk
   ·have q9:decide (x.op=9)=false:=AS p9
    by_cases p0:x.n=0
    ·have q0:decide (x.n=0)=true:=AT p0
     rw[q9,q0]at hk
     cases c8 with
     |false=>
      simp only[aA,Tryz.f184,KP,Ax.loadAt,↓reduceIte,reduceEqDiff,reduceLT,reduceCtorEq,h.nQ,h.bC,h.bR,cutAt,g1,g3,g4,la,lb,q1,q2,hc8,q4,q5,q9,q0]
      exact hk
     |true=>
      obtain⟨g,y,e1,e2⟩:=e rfl
      simp only[aA,Tryz.f184,KP,Ax.loadAt,↓reduceIte,reduceEqDiff,reduceLT,reduceCtorEq,h.nQ,h.c_,h.bC,h.bR,lN,cutAt,g1,g3,g4,la,lb,q1,q2,hc8,q4,q5,q9,q0,e1,e2]
      exact hk
    ·have q0:decide (x.n=0)=false:=AS p0
     rw[q9,q0]at hk
     cases c8 with
     |false=>
      simp only[aA,Tryz.f184,KP,Ax.loadAt,↓reduceIte,reduceEqDiff,reduceLT,reduceCtorEq,h.nQ,h.bC,h.bR,cutAt,g1,g3,g4,la,lb,q1,q2,hc8,q4,q5,q9,q0]
      exact hk
     |true=>
      obtain⟨g,y,e1,e2⟩:=e rfl
      simp only[aA,Tryz.f184,KP,Ax.loadAt,↓reduceIte,reduceEqDiff,reduceLT,reduceCtorEq,h.nQ,h.c_,h.bC,h.bR,lN,cutAt,g1,g3,g4,la,lb,q1,q2,hc8,q4,q5,q9,q0,e1,e2]
      exact hk
  exact tail _ rfl λhc=>e (dx hc)
 by_cases p8:x.op=8
 ·have hne:=h8 p8 p2
  obtain⟨y,r,hyr⟩:=nj hne
  obtain⟨g,e1⟩:=g_ h ib (i:=0) (x:=y) (by rw[hyr];rfl)
  by_cases hy:y=[]
  ·have e2:=iS hy
   have q8:decide (x.op=8)=true:=AT p8
   have q3:decide (x.lits.head?≠some [])=false:=AS (by rw[hyr,hy];simp)
   rw[q1,q2,q8,q3]at hk
   have e1:indexAddr E 24 b (.int .i64 0)=some (.cL g [.str y]):=e1
   simp only[aA,Tryz.f184,KP,Ax.loadAt,↓reduceIte,reduceEqDiff,reduceLT,reduceCtorEq,h.nQ,h.c_,h.bC,h.bR,lN,cutAt,g1,g3,g4,la,lb,q1,q2,q8,e1,e2]
   exact hk
  ·refine rest ?_ λ_=>⟨g,y,e1,gU hy⟩
   rw[show decide (x.lits.head?≠some [])=true from AT (by rw[hyr];simpa using hy),Bool.or_true]
 ·exact rest (by rw[show decide (x.op=8)=false from AS p8];rfl) λe=>absurd e p8
theorem RJ (h:bK E) {x:Step}{a b:V} (ia:IS aQ a x.args) (ib:IS aQ b x.lits)(hsm:x.lits.length<=4294967296) {A B:Int}(h8:x.op=8->(x.lits.length:Int)=B->x.lits≠[]) (F:FT) (g1:F.get 1=.ref 0 0) (g3:F.get 3=.int .i64 A) (g4:F.get 4=.int .i64 B) (g5:F.get 5=.int .i64 0)
  (hk:K (.bool (x.lits.all (λl=>decide (l.length<=100))&&lC x A B)) [.cells 113 [.str x.out,.int .i64 x.op,a,b,.int .i64 x.n] true]) :
  R E (.loop (cutAt [1,1,1,0,1,2,2] (aA Tryz.f184).code)) [.blk 1,.k (cutAt [1,1,1,1] (aA Tryz.f184).code)] ⟨85,F⟩ [.cells 113 [.str x.out,.int .i64 x.op,a,b,.int .i64 x.n] true] (mS E (aA Tryz.f184).results K):=by
 have lb:=bU h ib
 have key:=λF g1 g3 g4 hk=>U1 (K:=K) (A:=A) (B:=B) h ia ib h8 F g1 g3 g4 hk
 generalize cutAt [1,1,1,1] (aA Tryz.f184).code=C at key ⊢
 refine aS (λi F Y=>Y=[.cells 113 [.str x.out,.int .i64 x.op,a,b,.int .i64 x.n] true]/\F.get 1=.ref 0 0/\F.get 3=.int .i64 A/\F.get 4=.int .i64 B/\F.get 5=.int .i64 (i:Int)/\∀j y,j<i->x.lits[j]?=some y->y.length<=100) x.lits.length ?_ ?_ x.lits.length 0 _ _ (by omega) ⟨rfl,g1,g3,g4,g5,λj y hj=>by omega⟩
 ·rintro i F Y hi ⟨rfl,g1,g3,g4,g5,hp⟩ next
  obtain⟨y,hy⟩:∃y,x.lits[i]?=some y:=⟨_,BY hi⟩
  obtain⟨g,e1⟩:=g_ h ib hy
  have hlt:=dG hi
  have hadd:=bQ i (by omega)
  rw[aC]
  by_cases hl:y.length<=100
  ·have q:decide ((100:Int)<(y.length:Int))=false:=AS (by omega)
   simp only[aA,Tryz.f184,KP,Ax.loadAt,↓reduceIte,reduceEqDiff,reduceLT,reduceCtorEq,h.c_,h.bC,h.bR,gC h,cutAt,g1,g5,lb,hlt,e1,q,hadd]
   refine next _ _ ⟨rfl,(fM (by simp +decide only[GS,g1,g3,g4,ag]) (λj z hj hz=>?_))⟩
   rcases bz j i with g | g
   ·exact hp j z g hz
   ·obtain rfl:j=i:=by omega
    rw[hy]at hz;cases hz;exact hl
  ·have q:decide ((100:Int)<(y.length:Int))=true:=AT (by omega)
   simp only[aA,Tryz.f184,KP,Ax.loadAt,↓reduceIte,reduceEqDiff,reduceLT,reduceCtorEq,h.c_,h.bC,h.bR,gC h,cutAt,g1,g5,lb,hlt,e1,q]
   rw[iK hy (AS hl),ni]at hk
   exact hk
 ·rintro F Y ⟨rfl,g1,g3,g4,g5,hp⟩
  have hlt:=dH (b9 x.lits.length)
  rw[aC]
  rw[AM λj y _ hy=>AT (hp j y (AI.1 hy).1 hy),jf]at hk
  simp only[aA,Tryz.f184,KP,Ax.loadAt,↓reduceIte,reduceEqDiff,reduceLT,reduceCtorEq,h.bC,h.bR,cutAt,g1,g5,lb,hlt]
  exact key _ (by simp +decide only[GS,g1]) (by simp +decide only[GS,g3]) (by simp +decide only[GS,g4]) hk
theorem RW {n:Nat}:decide ((n:Int)=(if (6:Int)<(n:Int) then 6 else (n:Int)))=decide (n<=6):=by
 by_cases g:(6:Int)<(n:Int)
 ·rw[bf g,AS (by omega),AS (by omega)]
 ·rw[az g,AT rfl,AT (by omega)]
theorem end_1 {x:Step} (e:x.op=1):(x.lits.all (λl=>decide (l.length<=100))&&lC x 1 0)=cM x:=by
 unfold lC cM counts
 rw[e]
 skip
 generalize x.lits.all (λl=>decide (l.length<=100))=L
 generalize x.args.length=n
 generalize x.lits.length=m
 generalize x.lits.head?=hd
 generalize x.n=c
 rw[dw]
 by_cases hh:hd=some []
 ·cases L <;> simp[hh] <;> omega
 ·cases L <;> simp[hh] <;> omega
theorem aaU {x:Step} (e:x.op=2):(x.lits.all (λl=>decide (l.length<=100))&&lC x 1 0)=cM x:=by
 unfold lC cM counts
 rw[e]
 skip
 generalize x.lits.all (λl=>decide (l.length<=100))=L
 generalize x.args.length=n
 generalize x.lits.length=m
 generalize x.lits.head?=hd
 generalize x.n=c
 rw[dw]
 by_cases hh:hd=some []
 ·cases L <;> simp[hh] <;> omega
 ·cases L <;> simp[hh] <;> omega
theorem aaT {x:Step} (e:x.op=3):(x.lits.all (λl=>decide (l.length<=100))&&lC x 1 0)=cM x:=by
 unfold lC cM counts
 rw[e]
 skip
 generalize x.lits.all (λl=>decide (l.length<=100))=L
 generalize x.args.length=n
 generalize x.lits.length=m
 generalize x.lits.head?=hd
 generalize x.n=c
 rw[dw]
 by_cases hh:hd=some []
 ·cases L <;> simp[hh] <;> omega
 ·cases L <;> simp[hh] <;> omega
theorem aaS {x:Step} (e:x.op=4):(x.lits.all (λl=>decide (l.length<=100))&&lC x 1 0)=cM x:=by
 unfold lC cM counts
 rw[e]
 skip
 generalize x.lits.all (λl=>decide (l.length<=100))=L
 generalize x.args.length=n
 generalize x.lits.length=m
 generalize x.lits.head?=hd
 generalize x.n=c
 rw[dw]
 by_cases hh:hd=some []
 ·cases L <;> simp[hh] <;> omega
 ·cases L <;> simp[hh] <;> omega
theorem aaN {x:Step} (e:x.op=9):(x.lits.all (λl=>decide (l.length<=100))&&lC x 1 0)=cM x:=by
 unfold lC cM counts
 rw[e]
 skip
 generalize x.lits.all (λl=>decide (l.length<=100))=L
 generalize x.args.length=n
 generalize x.lits.length=m
 generalize x.lits.head?=hd
 generalize x.n=c
 rw[dw]
 by_cases hh:hd=some []
 ·cases L <;> simp[hh] <;> omega
 ·cases L <;> simp[hh] <;> omega
theorem aaR {x:Step} (e:x.op=5):(x.lits.all (λl=>decide (l.length<=100))&&lC x (if (6:Int)<(x.args.length:Int) then 6 else (x.args.length:Int)) 0)=cM x:=by
 unfold lC cM counts
 rw[e]
 rw[RW]
 generalize x.lits.all (λl=>decide (l.length<=100))=L
 generalize x.args.length=n
 generalize x.lits.length=m
 generalize x.lits.head?=hd
 generalize x.n=c
 rw[dw]
 by_cases hh:hd=some []
 ·cases L <;> simp[hh] <;> omega
 ·cases L <;> simp[hh] <;> omega
theorem aaQ {x:Step} (e:x.op=6):(x.lits.all (λl=>decide (l.length<=100))&&lC x 0 1)=cM x:=by
 unfold lC cM counts
 rw[e]
 skip
 generalize x.lits.all (λl=>decide (l.length<=100))=L
 generalize x.args.length=n
 generalize x.lits.length=m
 generalize x.lits.head?=hd
 generalize x.n=c
 rw[dw]
 by_cases hh:hd=some []
 ·cases L <;> simp[hh] <;> omega
 ·cases L <;> simp[hh] <;> omega
theorem aaP {x:Step} (e:x.op=7):(x.lits.all (λl=>decide (l.length<=100))&&lC x 1 1)=cM x:=by
 unfold lC cM counts
 rw[e]
 skip
 generalize x.lits.all (λl=>decide (l.length<=100))=L
 generalize x.args.length=n
 generalize x.lits.length=m
 generalize x.lits.head?=hd
 generalize x.n=c
 rw[dw]
 by_cases hh:hd=some []
 ·cases L <;> simp[hh] <;> omega
 ·cases L <;> simp[hh] <;> omega
theorem aaO {x:Step} (e:x.op=8):(x.lits.all (λl=>decide (l.length<=100))&&lC x 1 2)=cM x:=by
 unfold lC cM counts
 rw[e]
 skip
 generalize x.lits.all (λl=>decide (l.length<=100))=L
 generalize x.args.length=n
 generalize x.lits.length=m
 generalize x.lits.head?=hd
 generalize x.n=c
 rw[dw]
 by_cases hh:hd=some []
 ·cases L <;> simp[hh] <;> omega
 ·cases L <;> simp[hh] <;> omega
theorem Nr (h:bK E) {v:V}{x:Step}(hv:NA v x)(hsm:x.lits.length<=4294967296):aB E 184 [v] Z K=K (.bool (cM x)) Z:=by
 refine aB.of ?_
 have ev:=hv.snap (E:=E) Z
 obtain⟨a,b,rfl,ia,ib⟩:=hv
 have la:=bU h ia
 rw[aI h.Zu h.WV h.aak h.YB (args':=[.agg [.str x.out,.int .i64 x.op,a,b,.int .i64 x.n]]) (by simp only[aW,ev]),aY (by kernel_rfl)]
 have hoka:a.aZ=true:=aN ia.bF
 have hokb:b.aZ=true:=aN ib.bF
 by_cases hop:x.op=1\/x.op=2\/x.op=3\/x.op=4\/x.op=9\/x.op=5\/x.op=6\/x.op=7\/x.op=8
 ·have key:=λA B h8 F g1 g3 g4 g5 hk=>RJ (K:=λv σ1=>match cG σ1 E.ty false v with
    |some v=>v=.bool (cM x)
    |none=>False) h ia ib hsm (A:=A) (B:=B) h8 F g1 g3 g4 g5 hk
  generalize hC:cutAt [1,1,1,1] (aA Tryz.f184).code=C at key
  generalize hD:cutAt [1,1,1,0,1,2,2] (aA Tryz.f184).code=D at key
  have e1:(aA Tryz.f184).code=.seq (cutAt [0] (aA Tryz.f184).code) (.seq (cutAt [1,0] (aA Tryz.f184).code) (.seq (cutAt [1,1,0] (aA Tryz.f184).code) (.seq (.seq (cutAt [1,1,1,0,0] (aA Tryz.f184).code) (.block 1 (.loop D))) C))):=by rw[<- hC,<- hD];rfl
  rw[e1]
  clear e1 hC hD
  rcases hop with e | e | e | e | e | e | e | e | e
  ·have q:∀k:Int,decide (x.op=k)=decide ((1:Int)=k):=λk=>by rw[e]
   simp only[aA,Tryz.f184,KP,Ax.loadAt,↓reduceIte,reduceEqDiff,reduceLT,reduceAdd,reduceCtorEq,h.nQ,h.bR,cutAt,q,hoka,hokb]
   refine key 1 0 (λe8 e9=>?_) _ ?_ ?_ ?_ ?_ ?_
   ·omega
   ·exact (by simp +decide only[GS])
   ·exact (by simp +decide only[GS])
   ·exact (by simp +decide only[GS])
   ·exact (by simp +decide only[GS])
   ·exact au V.bool (end_1 e)
  ·have q:∀k:Int,decide (x.op=k)=decide ((2:Int)=k):=λk=>by rw[e]
   simp only[aA,Tryz.f184,KP,Ax.loadAt,↓reduceIte,reduceEqDiff,reduceLT,reduceAdd,reduceCtorEq,reduceEq,h.nQ,h.bR,cutAt,q,hoka,hokb]
   refine key 1 0 (λe8 e9=>?_) _ ?_ ?_ ?_ ?_ ?_
   ·omega
   ·exact (by simp +decide only[GS])
   ·exact (by simp +decide only[GS])
   ·exact (by simp +decide only[GS])
   ·exact (by simp +decide only[GS])
   ·exact au V.bool (aaU e)
  ·have q:∀k:Int,decide (x.op=k)=decide ((3:Int)=k):=λk=>by rw[e]
   simp only[aA,Tryz.f184,KP,Ax.loadAt,↓reduceIte,reduceEqDiff,reduceLT,reduceAdd,reduceCtorEq,reduceEq,h.nQ,h.bR,cutAt,q,hoka,hokb]
   refine key 1 0 (λe8 e9=>?_) _ ?_ ?_ ?_ ?_ ?_
   ·omega
   ·exact (by simp +decide only[GS])
   ·exact (by simp +decide only[GS])
   ·exact (by simp +decide only[GS])
   ·exact (by simp +decide only[GS])
   ·exact au V.bool (aaT e)
  ·have q:∀k:Int,decide (x.op=k)=decide ((4:Int)=k):=λk=>by rw[e]
   simp only[aA,Tryz.f184,KP,Ax.loadAt,↓reduceIte,reduceEqDiff,reduceLT,reduceAdd,reduceCtorEq,reduceEq,h.nQ,h.bR,cutAt,q,hoka,hokb]
   refine key 1 0 (λe8 e9=>?_) _ ?_ ?_ ?_ ?_ ?_
   ·omega
   ·exact (by simp +decide only[GS])
   ·exact (by simp +decide only[GS])
   ·exact (by simp +decide only[GS])
   ·exact (by simp +decide only[GS])
   ·exact au V.bool (aaS e)
  ·have q:∀k:Int,decide (x.op=k)=decide ((9:Int)=k):=λk=>by rw[e]
   simp only[aA,Tryz.f184,KP,Ax.loadAt,↓reduceIte,reduceEqDiff,reduceLT,reduceAdd,reduceCtorEq,reduceEq,h.nQ,h.bR,cutAt,q,hoka,hokb]
   refine key 1 0 (λe8 e9=>?_) _ ?_ ?_ ?_ ?_ ?_
   ·omega
   ·exact (by simp +decide only[GS])
   ·exact (by simp +decide only[GS])
   ·exact (by simp +decide only[GS])
   ·exact (by simp +decide only[GS])
   ·exact au V.bool (aaN e)
  ·have q:∀k:Int,decide (x.op=k)=decide ((5:Int)=k):=λk=>by rw[e]
   simp only[aA,Tryz.f184,KP,Ax.loadAt,↓reduceIte,reduceEqDiff,reduceLT,reduceAdd,reduceCtorEq,reduceEq,h.nQ,h.bC,h.bR,cutAt,la,q,hoka,hokb,min2]
   refine key (if (6:Int)<(x.args.length:Int) then 6 else (x.args.length:Int)) 0 (λe8 e9=>?_) _ ?_ ?_ ?_ ?_ ?_
   ·omega
   ·exact (by simp +decide only[GS])
   ·exact (by simp +decide only[GS])
   ·exact (by simp +decide only[GS])
   ·exact (by simp +decide only[GS])
   ·exact au V.bool (aaR e)
  ·have q:∀k:Int,decide (x.op=k)=decide ((6:Int)=k):=λk=>by rw[e]
   simp only[aA,Tryz.f184,KP,Ax.loadAt,↓reduceIte,reduceEqDiff,reduceLT,reduceAdd,reduceCtorEq,reduceEq,h.nQ,h.bR,cutAt,q,hoka,hokb]
   refine key 0 1 (λe8 e9=>?_) _ ?_ ?_ ?_ ?_ ?_
   ·omega
   ·exact (by simp +decide only[GS])
   ·exact (by simp +decide only[GS])
   ·exact (by simp +decide only[GS])
   ·exact (by simp +decide only[GS])
   ·exact au V.bool (aaQ e)
  ·have q:∀k:Int,decide (x.op=k)=decide ((7:Int)=k):=λk=>by rw[e]
   simp only[aA,Tryz.f184,KP,Ax.loadAt,↓reduceIte,reduceEqDiff,reduceLT,reduceAdd,reduceCtorEq,reduceEq,h.nQ,h.bR,cutAt,q,hoka,hokb]
   refine key 1 1 (λe8 e9=>?_) _ ?_ ?_ ?_ ?_ ?_
   ·omega
   ·exact (by simp +decide only[GS])
   ·exact (by simp +decide only[GS])
   ·exact (by simp +decide only[GS])
   ·exact (by simp +decide only[GS])
   ·exact au V.bool (aaP e)
  ·have q:∀k:Int,decide (x.op=k)=decide ((8:Int)=k):=λk=>by rw[e]
   simp only[aA,Tryz.f184,KP,Ax.loadAt,↓reduceIte,reduceEqDiff,reduceLT,reduceAdd,reduceCtorEq,reduceEq,h.nQ,h.bR,cutAt,q,hoka,hokb]
   refine key 1 2 (λe8 e9=>?_) _ ?_ ?_ ?_ ?_ ?_
   ·intro e0;rw[e0]at e9;simp at e9
   ·exact (by simp +decide only[GS])
   ·exact (by simp +decide only[GS])
   ·exact (by simp +decide only[GS])
   ·exact (by simp +decide only[GS])
   ·exact au V.bool (aaO e)
 ·have q:∀k:Int,(k=1\/k=2\/k=3\/k=4\/k=9\/k=5\/k=6\/k=7\/k=8)->decide (x.op=k)=false:=λk hk=>AS (λe=>hop (by rw[e];exact hk))
  have q1:=q 1 (by simp)
  have q2:=q 2 (by simp)
  have q3:=q 3 (by simp)
  have q4:=q 4 (by simp)
  have q5:=q 5 (by simp)
  have q6:=q 6 (by simp)
  have q7:=q 7 (by simp)
  have q8:=q 8 (by simp)
  have q9:=q 9 (by simp)
  simp only[aA,Tryz.f184,KP,Ax.loadAt,↓reduceIte,reduceEqDiff,reduceLT,reduceAdd,reduceCtorEq,h.nQ,h.bR,hoka,hokb,q1,q2,q3,q4,q5,q6,q7,q8,q9]
  have e:cM x=false:=by
   unfold cM
   rw[AS (by omega)];rfl
  rw[e]
  exact rfl
theorem MR (h:bK E) {v:V}{x:Step}(hv:NA v x)(hsm:x.lits.length<=4294967296):KC E 184 [v] Z (.bool (cM x)) Z:=cU λ_=>Nr h hv hsm
end
end
section
section
variable {E:Env}{Z:Sg}{K:V->Sg->Prop}
def tI (l:List bH) (c:Nat):List bH:=if c=47 then l++[[]] else l.set (l.length-1) ((l[l.length-1]?).getD []++[c])
theorem zW (c:Nat):∀s:bH,cO c s≠[]
 | []=>by simp[cO]
 |a::r=>by
  rw[cO]
  split
  ·simp
  ·split <;> simp
theorem wR {p:bH}{l:List bH}(hl:l≠[]) (c:Nat):tI (p::l) c=p::tI l c:=by
 obtain⟨x,r,rfl⟩:=nj hl
 unfold tI
 split
 ·rfl
 ·simp
theorem tY (c:Nat):∀s:bH,cO 47 (s++[c])=tI (cO 47 s) c
 | []=>by
  by_cases h:c=47 <;> simp[cO,tI,h]
 |a::r=>by
  have ih:=tY c r
  rw[dy,cO,cO]
  by_cases h:a=47
  ·rw[bf h,bf h,ih,wR (zW 47 r)]
  ·rw[az h,az h,ih]
   obtain⟨p,ps,hp⟩:=nj (zW 47 r)
   rw[hp]
   cases ps with
   |nil=>
    unfold tI
    by_cases hc:c=47
    ·simp[hc]
    ·simp[hc]
   |cons q qs=>
    have e1:tI (p::q::qs) c=p::tI (q::qs) c:=wR (by simp) c
    have e2:tI ((a::p)::q::qs) c=(a::p)::tI (q::qs) c:=wR (by simp) c
    rw[e1]
    exact e2.symm
theorem rU (c:Nat):∀s:bH,(cO c s).length<=s.length+1
 | []=>ae _
 |a::r=>by
  have ih:=rU c r
  rw[cO]
  split
  ·simp only[af];omega
  ·split
   ·rename_i h;rw[h]at ih;simp only[af]at ih ⊢;omega
   ·simp
theorem tZ {s:bH}:∀{P:List bH},cO 47 s=P->∀y∈P,y.length<=s.length:=by
 induction s with
 |nil=>intro P hP y hy;subst hP;simp[cO]at hy;subst hy;exact ae _
 |cons a r ih=>
  intro P hP y hy
  subst hP
  rw[cO]at hy
  split at hy
  ·rcases IN.1 hy with rfl | hy
   ·simp
   ·have:=ih rfl y hy;simp only[af];omega
  ·split at hy
   ·rename_i p ps hp
    rcases IN.1 hy with rfl | hy
    ·have:=ih hp p (By ..);simp only[af];omega
    ·have:=ih hp y (No _ hy);simp only[af];omega
   ·simp at hy;subst hy;simp
theorem Eg (n:Nat)(h0:0<n)(h:n<9223372036854775807):wr .i64 ((n:Int)-1)=((n-1:Nat):Int):=by
 rw[zS,bf]
 ·omega
 ·have h1:lo .i64 = -9223372036854775808:=rfl
  have h2:hi .i64=9223372036854775807:=rfl
  rw[h1,h2,aj,OF,OF]
  omega
theorem Lt (h:bK E) {s:bH}{i c:Nat}(hc:s[i]?=some c):Ax.index E 9 (.str s) (.int .i64 (i:Int))=some (.int .u8 (c:Int)):=by
 have hneg:¬ ((i:Int)<0):=by omega
 unfold Ax.index
 simp only[h.c_,hneg,ay,cv,hc]
theorem Mh (h:bK E) {s:bH}{i c:Nat}(hc:s[i]?=some c):Ax.slice E Z 9 (.str s) (some (.int .i64 (i:Int))) (some (.int .i64 ((i+1:Nat):Int))) none=some (.str [c]):=by
 have hi:=(AI.1 hc).1
 have hb:∀n m:Nat,m<=n->∀d,Ax.bound n (some (.int .i64 (m:Int))) d=some m:=λn m hm d=>by
  unfold Ax.bound
  simp only[]
  rw[bf (by simp only[aj,OF];omega)]
  rfl
 unfold Ax.slice
 simp only[h.c_,jo,ai,ay]
 rw[hb s.length (i+1) hi]
 simp only[]
 rw[hb (i+1) i (by omega)]
 simp only[]
 rw[show i+1-i=1 by omega,List.drop_eq_getElem_cons hi]
 have:=(AI.1 hc).2
 rw[this];rfl
theorem lA (s:bH):Ax.fill (λj=>some (j*1,1)) (fR 1 [V.str []]) [(0,V.str s)]=some [.str s]:=rfl
theorem Th (h:bK E) {s:bH}(hsm:s.length<=1000000000):aB E 222 [.str s] Z λv σ'=>σ'=Z/\jG aQ v (cO 47 s):=by
 rw[aI h.Zl h.WL h.aab h.Ys (args':=[.str s]) (by simp only[aW,dM]),aY (by kernel_rfl)]
 simp only[aA,Tryz.f222,KP,↓reduceIte,reduceLT,reduceLeDiff,reduceMul,h.c_,h.bC,lN,lA]
 have d7:=h.VD
 simp only[aA,Tryz.f222,cutAt,an]at d7
 refine aS (λi F Y=>F.get 0=.str s/\F.get 4=.int .i64 (i:Int)/\∃w,F.get 3=w/\aV aQ 9 Y w (cO 47 (s.take i))) s.length ?_ ?_ s.length 0 _ _ (by omega) (lV (by simp +decide only[GS,ag]) ⟨.sl 0 0 1 none,(by simp +decide only[GS]),.inr ⟨0,[[.str []]],true,rfl,rfl,.one rfl⟩⟩)
 ·rintro i F Y hi ⟨g0,g4,w,g3,ow⟩ next
  obtain⟨c,hc⟩:∃c,s[i]?=some c:=⟨_,BY hi⟩
  have e1:=Lt h hc
  have hlt:=dG hi
  have hadd:=bQ i (by omega)
  have htk:s.take (i+1)=s.take i++[c]:=by rw[dn,hc];rfl
  have hln:=rU 47 (s.take i)
  have hln2:(s.take i).length<=s.length:=by rw[br];omega
  rw[aC]
  by_cases h47:c=47
  ·have q:decide ((c:Int)=47)=true:=AT (by omega)
   obtain⟨w',τ',ha,ow',-,-,-⟩:=iR (ats:=#[24,24]) (x:=.sl Y.length 0 1 none) (m:=[[]]) (new:=[[.str []]]) h.bC rfl h.c_ rfl (by decide) (iI h) rfl (ow.app [.cells 9 [.str []] true]) (kL rfl) (.one rfl) (dA (b:=1000000002) (by decide) (by simp only[af,b8];omega))
   simp only[KP,↓reduceIte,reduceEqDiff,reduceLT,reduceLeDiff,reduceMul,reduceCtorEq,h.c_,h.bC,gC h,lN,g0,g3,g4,hlt,e1,q,lA,ha,hadd]
   refine next _ _ (lV (by simp +decide only[GS,g0,ag]) ⟨w',(by simp +decide only[GS]),?_⟩)
   rw[htk,tY,tI,bf h47]
   exact ow'
  ·have q:decide ((c:Int)=47)=false:=AS (by omega)
   have hpos:0<(cO 47 (s.take i)).length:=jd.2 (zW 47 _)
   generalize hP:cO 47 (s.take i)=P at *
   obtain⟨y,hy⟩:∃y,P[P.length-1]?=some y:=⟨_,BY (by omega)⟩
   have hyl:y.length<=s.length:=by
    have:=tZ hP y (aa hy)
    omega
   obtain⟨b,e2,-,τ',e3,ow',-,-⟩:=zV (u:=.str (y++[c])) (y:=y++[c]) h.bC rfl h.c_ rfl ow (i:=P.length-1) (by omega) rfl rfl
   obtain⟨p,r,e4,e5,-,e6,-⟩:=DJ (Z:=Y) h.bC rfl h.c_ rfl ow.ls hy
   have e6:=e6 rfl (by decide)
   rw[e2]at e4
   cases e4
   rw[show r=[.str y] from e5]at e6
   have e6:loadAt E Y 9 (.ref b ((P.length-1)*1))=some (.str y):=e6
   have e3:storeAt E Y 9 (.ref b ((P.length-1)*1)) (.str (y++[c]))=some τ':=e3
   have e2:indexAddr E 24 w (.int .i64 ((P.length-1:Nat):Int))=some (.ref b ((P.length-1)*1)):=e2
   have lw:∀Z,lenOf E Z 24 w=some P.length:=λZ=>by
    rcases ow with⟨rfl,rfl⟩ | ⟨b,rs,ex,rfl,-⟩
    ·simp at hpos
    ·unfold lenOf;rw[h.bC]
   have hdn:=Eg P.length hpos (by omega)
   have hsl:=λZ=>Mh (Z:=Z) h hc
   have hcat:decide (y.length<=9223372036854775806)=true:=AT (by omega)
   simp only[KP,↓reduceIte,reduceEqDiff,reduceLT,reduceLeDiff,reduceCtorEq,gC h,g0,g3,g4,hlt,e1,q,lw,hdn,aK d7,bB,e2,e6,hadd,hsl,hcat,e3]
   refine next _ _ ⟨?_,?_,w,?_,?_⟩
   ·exact (by simp +decide only[GS,g0])
   ·exact (by simp +decide only[GS])
   ·exact (by simp +decide only[GS,g3])
   rw[htk,tY,hP,tI,az h47,hy]
   exact ow'
 ·rintro F Y ⟨g0,g4,w,g3,ow⟩
  have hlt:=dH (b9 s.length)
  rw[aC]
  rw[ah (ae _)]at ow
  obtain⟨v',e1,hv⟩:=pD h.c_ rfl (λr x hr c hc=>by rw[show r=[.str x] from hr]at hc;cases hc with | head=>rfl | tail _ h=>cases h) ow
  simp only[KP,↓reduceIte,reduceEqDiff,reduceLT,reduceCtorEq,gC h,g0,g3,g4,hlt,e1]
  exact hv
end
end
section
section
variable {E:Env}{Z:Sg}{K:V->Sg->Prop}
theorem Pa {s:bH}(h1:pG s=false)(h2:s.length<=40):bN s=(cO 47 s).all rZ:=by
 unfold bN;rw[h1,AT h2];simp
theorem Ag {p:bH}(h:p=[]\/p=[46]\/p=[46,46]):rZ p=false:=by
 unfold rZ
 rcases h with rfl | rfl | rfl <;> simp
theorem Jy {p:bH}(h1:p≠[])(h2:p≠[46])(h3:p≠[46,46]):rZ p=p.all sign:=by
 unfold rZ;rw[AS h1,AS h2,AS h3];simp
theorem Qf (h:bK E) {s:bH}:aB E 185 [.str s] Z K=K (.bool (bN s)) Z:=by
 refine aB.of ?_
 rw[aI h.Zt h.WU h.aaj h.YA (args':=[.str s]) (by simp only[aW,dM]),aY (by kernel_rfl)]
 have ls:∀Z,lenOf E Z 9 (.str s)=some s.length:=λZ=>gC h
 by_cases h0:s=[]
 ·subst h0
  simp only[aA,Tryz.f185,KP,↓reduceIte,reduceEqDiff,reduceLT,reduceCtorEq,Int.reduceLT,gC h]
  exact rfl
 have hl0:0<s.length:=jd.2 h0
 have q0:decide ((s.length:Int)<1)=false:=AS (by omega)
 by_cases h40:s.length<=40
 case neg=>
  have q1:decide ((40:Int)<(s.length:Int))=true:=AT (by omega)
  simp only[aA,Tryz.f185,KP,↓reduceIte,reduceEqDiff,reduceLT,reduceCtorEq,gC h,q0,q1]
  show V.bool false=_
  unfold bN
  rw[AS h40,Bool.and_false,ni]
 have q1:decide ((40:Int)<(s.length:Int))=false:=AS (by omega)
 by_cases w3:s=[114,117,108,101]
 ·have e3:=iS w3
  simp only[aA,Tryz.f185,KP,↓reduceIte,reduceEqDiff,reduceLT,reduceCtorEq,gC h,Dz,q0,q1,e3]
  rw[w3]
  exact rfl
 have e3:=gU w3
 by_cases w4:s=[105,110]
 ·have e4:=iS w4
  simp only[aA,Tryz.f185,KP,↓reduceIte,reduceEqDiff,reduceLT,reduceCtorEq,gC h,Dz,Gn,q0,q1,e3,e4]
  rw[w4]
  exact rfl
 have e4:=gU w4
 by_cases w5:s=[111,117,116]
 ·have e5:=iS w5
  simp only[aA,Tryz.f185,KP,↓reduceIte,reduceEqDiff,reduceLT,reduceCtorEq,gC h,Dz,Gn,J0,q0,q1,e3,e4,e5]
  rw[w5]
  exact rfl
 have e5:=gU w5
 by_cases w6:s=[97,102,116,101,114]
 ·have e6:=iS w6
  simp only[aA,Tryz.f185,KP,↓reduceIte,reduceEqDiff,reduceLT,reduceCtorEq,gC h,Dz,Gn,J0,P5,q0,q1,e3,e4,e5,e6]
  rw[w6]
  exact rfl
 have e6:=gU w6
 have hsm:s.length<=1000000000:=by omega
 have hr:pG s=false:=by unfold pG;rw[AS w3,AS w4,AS w5,AS w6];rfl
 rw[Pa hr h40]
 simp only[aA,Tryz.f185,KP,↓reduceIte,reduceEqDiff,reduceLT,reduceCtorEq,gC h,Dz,Gn,J0,P5,q0,q1,e3,e4,e5,e6]
 refine aP (Th h hsm) ?_
 rintro v σ' ⟨rfl,hv⟩
 have iv:=hv.is
 have la:=bU h iv
 have hPl:=rU 47 s
 have hPp:=tZ (s:=s) rfl
 generalize cO 47 s=P at *
 simp only[KP,↓reduceIte,reduceLT]
 refine aS (λi F Y=>Y=[]/\F.get 3=v/\F.get 4=.int .i64 (i:Int)/\∀j y,j<i->P[j]?=some y->rZ y=true) P.length ?_ ?_ P.length 0 _ _ (by omega) ⟨rfl,(lV (by simp +decide only[GS,ag]) (λj y hj=>by omega))⟩
 ·rintro i F Y hi ⟨rfl,g3,g4,hp⟩ next
  obtain⟨p,hpi⟩:∃p,P[i]?=some p:=⟨_,BY hi⟩
  have hpl:=hPp p (aa hpi)
  obtain⟨g,e1⟩:=g_ h iv hpi
  have hlt:=dG hi
  have hadd:=bQ i (by omega)
  rw[aC]
  by_cases b1:p=[]
  ·have s1:=iS b1
   rw[iK hpi (Ag (.inl b1))]
   simp only[KP,Ax.loadAt,↓reduceIte,reduceEqDiff,reduceLT,h.c_,lN,g3,g4,la,hlt,e1,s1]
   exact rfl
  have s1:=gU b1
  by_cases b2:p=[46]
  ·have s2:=iS b2
   rw[iK hpi (Ag (.inr (.inl b2)))]
   simp only[KP,Ax.loadAt,↓reduceIte,reduceEqDiff,reduceLT,h.c_,lN,M8,g3,g4,la,hlt,e1,s1,s2]
   exact rfl
  have s2:=gU b2
  by_cases b3:p=[46,46]
  ·have s3:=iS b3
   rw[iK hpi (Ag (.inr (.inr b3)))]
   simp only[KP,Ax.loadAt,↓reduceIte,reduceEqDiff,reduceLT,h.c_,lN,M8,S4,g3,g4,la,hlt,e1,s1,s2,s3]
   exact rfl
  have s3:=gU b3
  simp only[KP,Ax.loadAt,↓reduceIte,reduceEqDiff,reduceLT,h.c_,lN,M8,S4,g3,g4,la,hlt,e1,s1,s2,s3]
  refine aS (λk F Y=>Y=[]/\F.get 3=v/\F.get 4=.int .i64 (i:Int)/\F.get 5=.int .i64 (k:Int)/\∀j y,j<k->p[j]?=some y->sign y=true) p.length ?_ ?_ p.length 0 _ _ (by omega) ⟨rfl,(fJ (by simp +decide only[GS,g3,g4,ag]) (λj y hj=>by omega))⟩
  ·rintro k F Y hk ⟨rfl,g3,g4,g5,hq⟩ next2
   obtain⟨c,hc⟩:∃c,p[k]?=some c:=⟨_,BY hk⟩
   have e2:=Lt h hc
   have hlt2:=dG hk
   have hadd2:=bQ k (by omega)
   have kf:=λ(Y:Sg)=>Vk (Z:=Y) h (c:=c)
   rw[aC]
   by_cases hs:sign c=true
   ·simp only[KP,Ax.loadAt,↓reduceIte,reduceEqDiff,reduceLT,h.c_,gC h,g3,g4,g5,hlt2,e1,e2,kf,hs,hadd2]
    refine next2 _ _ ⟨rfl,(fJ (by simp +decide only[GS,g3,g4,ag]) (λj y hj hy=>?_))⟩
    rcases bz j k with g | g
    ·exact hq j y g hy
    ·obtain rfl:j=k:=by omega
     rw[hc]at hy;cases hy;exact hs
   ·have hs:sign c=false:=by simpa using hs
    rw[iK hpi (by rw[Jy b1 b2 b3];exact iK hc hs)]
    simp only[KP,Ax.loadAt,↓reduceIte,reduceEqDiff,reduceLT,h.c_,gC h,g3,g4,g5,hlt2,e1,e2,kf,hs]
    exact rfl
  ·rintro F Y ⟨rfl,g3,g4,g5,hq⟩
   have hlt2:=dH (b9 p.length)
   rw[aC]
   simp only[KP,Ax.loadAt,↓reduceIte,reduceEqDiff,reduceLT,h.c_,gC h,g3,g4,g5,hlt2,e1,hadd]
   refine next _ _ ⟨rfl,(lV (by simp +decide only[GS,g3,ag]) (λj y hj hy=>?_))⟩
   rcases bz j i with g | g
   ·exact hp j y g hy
   ·obtain rfl:j=i:=by omega
    rw[hpi]at hy;cases hy
    rw[Jy b1 b2 b3]
    exact AM λj y _ hy=>hq j y (AI.1 hy).1 hy
 ·rintro F Y ⟨rfl,g3,g4,hp⟩
  have hlt:=dH (b9 P.length)
  rw[aC]
  rw[AM λj y _ hy=>hp j y (AI.1 hy).1 hy]
  simp only[KP,↓reduceIte,reduceEqDiff,reduceLT,g3,g4,la,hlt]
  exact rfl
theorem PB (h:bK E) {s:bH}:KC E 185 [.str s] Z (.bool (bN s)) Z:=cU λ_=>Qf h
end
end
section
section
variable {E:Env}{Z:Sg}{K:V->Sg->Prop}
theorem pY {f:V->V->Bool}:∀{l:List V},(∀x∈l,f x x=true)->nE f l l=true
 | [],_=>rfl
 |x::l,h=>by
  show (f x x&&nE f l l)=true
  rw[h x (By ..),pY λy hy=>h y (No _ hy)];rfl
theorem DK {f:List V->List V->Bool}:∀{l:List (List V)},(∀x∈l,f x x=true)->nE f l l=true
 | [],_=>rfl
 |x::l,h=>by
  show (f x x&&nE f l l)=true
  rw[h x (By ..),DK λy hy=>h y (No _ hy)];rfl
theorem NL {α:Type}{L:Lay α} (n:Nat)(hL:∀r x,L.P r x->∀c∈r,pA n c c=true) {v:V}{l:List α}(h:IS L v l):pA (n+1) v v=true:=by
 rcases h with⟨rfl,-⟩ | ⟨g,rs,full,rfl,ha⟩
 ·rfl
 ·show (g==g&&nE (nE (pA n)) rs rs&&full==full)=true
  rw[DK λr hr=>?_]
  ·simp
  ·obtain⟨x,-,hp⟩:=ha.mem hr
   exact pY (hL r x hp)
theorem xL (n:Nat) (s:bH):pA (n+1) (.str s) (.str s)=true:=iS rfl
theorem GM (n:Nat) (k:IntKind) (i:Int):pA (n+1) (.int k i) (.int k i)=true:=by
 show (decide (k=k)&&decide (i=i))=true
 simp
theorem cK {v:V}{l:List bH} (n:Nat)(h:IS aQ v l):pA (n+2) v v=true:=NL (n+1) (λr x hr c hc=>by
 rw[show r=[.str x] from hr]at hc
 cases hc with
 |head=>exact xL n x
 |tail _ h=>cases h) h
theorem oV {v:V}{l:List AxS.Step} (n:Nat)(h:IS fQ v l):pA (n+3) v v=true:=NL (n+2) (λr x hr c hc=>by
 obtain⟨a,b,rfl,h1,h2⟩:=hr
 simp only[IN,ck,fh]at hc
 rcases hc with rfl | rfl | rfl | rfl | rfl
 ·exact xL (n+1) _
 ·exact GM (n+1) _ _
 ·exact cK n h1
 ·exact cK n h2
 ·exact GM (n+1) _ _) h
theorem zM (h:bK E) {Y:Sg}{w v:V}{l m:List bH} (ow:aV aQ 9 Y w l) (iv:IS aQ v m)(hb:l.length+m.length<=1000000000):∃w' τ',Ax.append E Y #[24,24] w v=some (w',τ')/\aV aQ 9 τ' w' (l++m)/\Sp Y τ' w/\Y.length<=τ'.length/\∀b,aR w'=some b->aR w=some b\/Y.length<=b:=by
 obtain⟨rs,e,ha⟩:=nW iv Y
 exact iR h.bC rfl h.c_ rfl (by decide) (iI h) rfl ow e ha (dA (b:=1000000000) (by decide) hb)
theorem Gw (h:bK E) {Y:Sg}{w:V}{l:List bH}{s:bH}{ex:Bool} (ow:aV aQ 9 Y w l)(hb:l.length<=1000000000):∃w' τ',Ax.append E (Y++[.cells 9 [.str s] ex]) #[24,24] w (.sl Y.length 0 1 none)=some (w',τ')/\aV aQ 9 τ' w' (l++[s])/\Sp (Y++[.cells 9 [.str s] ex]) τ' w/\Y.length<=τ'.length:=by
 obtain⟨w',τ',h1,h2,h3,h4,-⟩:=iR (m:=[s]) (new:=[[.str s]]) h.bC rfl h.c_ rfl (by decide) (iI h) rfl (ow.app [.cells 9 [.str s] ex]) (kL rfl) (.one rfl) (dA (b:=1000000001) (by decide) (by simp only[af,b8];omega))
 exact⟨w',τ',h1,h2,h3,by simp only[ak,af,b8]at h4;omega⟩
theorem Sn (h:bK E) {x:aD}{a b c d:V} (ia:IS aQ a x.ins) (ib:IS aQ b x.outs) (ic:IS aQ c x.after)(hsm:x.ins.length<=100000000/\x.outs.length<=100000000/\x.after.length<=100000000) (F:FT) (g1:F.get 1=.ref 0 0) (g2:F.get 2=.bool false) :
  ∃F' Y w,bW E (ev E 0) (opsOf (cutAt [1,0] (aA Tryz.f150).code)) ⟨64,F⟩ [.cells 46 [.str x.name,a,b,c,d] true]=some (⟨64,F'⟩,Y)/\F'.get 1=.ref 0 0/\F'.get 3=w/\Y[0]?=some (.cells 46 [.str x.name,a,b,c,d] true)/\aV aQ 9 Y w (x.name::(x.ins++(x.outs++x.after)))/\aR w≠some 0:=by
 have o0:aV aQ 9 [.cells 46 [.str x.name,a,b,c,d] true,.cells 9 [.str x.name] true] (.sl 1 0 1 none) [x.name]:=.inr ⟨1,[[.str x.name]],true,rfl,rfl,.one rfl⟩
 obtain⟨w1,τ1,ha1,o1,k1,n1,-⟩:=zM h o0 ia (by simp only[af,b8];omega)
 obtain⟨w2,τ2,ha2,o2,k2,n2,-⟩:=zM h o1 ib (by simp only[ak,af,b8];omega)
 obtain⟨w3,τ3,ha3,o3,k3,n3,-⟩:=zM h o2 ic (by simp only[ak,af,b8];omega)
 have b1:τ1[0]?=some (.cells 46 [.str x.name,a,b,c,d] true):=k1 0 _ rfl (by show some 1≠some 0;simp)
 have nb:∀{Y:Sg}{w:V}{l:List bH},Y[0]?=some (.cells 46 [.str x.name,a,b,c,d] true)->aV aQ 9 Y w l->aR w≠some 0:=by
  rintro Y w l hb (⟨rfl,-⟩ | ⟨b,rs,ex,rfl,hc,-⟩) e
  ·cases e
  ·cases e;rw[hb]at hc;cases hc
 have b2:τ2[0]?=some (.cells 46 [.str x.name,a,b,c,d] true):=k2 0 _ b1 (nb b1 o1)
 have b3:τ3[0]?=some (.cells 46 [.str x.name,a,b,c,d] true):=k3 0 _ b2 (nb b2 o2)
 have va:=cK 10 ia
 have vb:=cK 10 ib
 have vc:=cK 10 ic
 unfold bW
 rw[h.TY,h.US]
 simp only[aA,Tryz.f150,KP,Ax.loadAt,↓reduceIte,reduceEqDiff,reduceLT,reduceLeDiff,reduceAdd,reduceMul,reduceCtorEq,h.c_,h.bC,h.bM,opsOf,cutAt,Fz.lits,Fz.apps,fF,bJ,bV,jF,Ax.comp,Ax.last,eL,Ax.again,g1,lA,ha1,ha2,ha3,b1,b2,va,vb,vc]
 refine⟨_,_,w3,rfl,(lV (by simp +decide only[GS,g1,ag]) ⟨b3,?_,nb b3 o3⟩)⟩
 have e:[x.name]++x.ins++x.outs++x.after=x.name::(x.ins++(x.outs++x.after)):=by simp
 rw[<- e]
 exact o3
theorem Sm (h:bK E) {x:aD}{a b c d:V} (id:IS fQ d x.steps) {st:AxS.Step}{i:Nat}(hi:x.steps[i]?=some st) {Y:Sg}{w:V}{l:List bH} (b0:Y[0]?=some (.cells 46 [.str x.name,a,b,c,d] true)) (ow:aV aQ 9 Y w l) (nw:aR w≠some 0)(hsm:l.length<=500000000/\st.args.length<=100000000)
  (F:FT) (g1:F.get 1=.ref 0 0) (g3:F.get 3=w) (g4:F.get 4=.int .i64 (i:Int)) :
  ∃F' τ' w',bW E (ev E 0) (opsOf (cutAt [1,1,0,1,2,2,1,0,2,1] (aA Tryz.f150).code)) ⟨64,F⟩ Y=some (⟨64,F'⟩,τ')/\F'.get 1=.ref 0 0/\F'.get 3=w'/\F'.get 4=.int .i64 (i:Int)/\τ'[0]?=some (.cells 46 [.str x.name,a,b,c,d] true)/\aV aQ 9 τ' w' (l++st.out::st.args)/\aR w'≠some 0:=by
 obtain⟨g,p,q,e1,ip,iq⟩:=vJ h id hi
 obtain⟨w1,τ1,ha1,o1,k1,n1⟩:=Gw (s:=st.out) (ex:=true) h ow (by omega)
 obtain⟨w2,τ2,ha2,o2,k2,n2,-⟩:=zM h o1 ip (by simp only[ak,af,b8];omega)
 have b0':(Y++[O.cells 9 [.str st.out] true])[0]?=some (.cells 46 [.str x.name,a,b,c,d] true):=by rw[aq (AI.1 b0).1];exact b0
 have nb:∀{Y:Sg}{w:V}{l:List bH},Y[0]?=some (.cells 46 [.str x.name,a,b,c,d] true)->aV aQ 9 Y w l->aR w≠some 0:=by
  rintro Y w l hb (⟨rfl,-⟩ | ⟨b,rs,ex,rfl,hc,-⟩) e
  ·cases e
  ·cases e;rw[hb]at hc;cases hc
 have b1:τ1[0]?=some (.cells 46 [.str x.name,a,b,c,d] true):=k1 0 _ b0' nw
 have b2:τ2[0]?=some (.cells 46 [.str x.name,a,b,c,d] true):=k2 0 _ b1 (nb b1 o1)
 have va:=cK 10 ip
 have vd:=oV 9 id
 unfold bW
 rw[h.TX,h.UR]
 simp only[aA,Tryz.f150,KP,Ax.loadAt,↓reduceIte,reduceEqDiff,reduceLT,reduceLeDiff,reduceAdd,reduceMul,reduceCtorEq,h.c_,h.bC,h.gA,h.bM,h.bR,opsOf,cutAt,Fz.lits,Fz.apps,fF,bJ,bV,jF,Ax.comp,Ax.last,eL,Ax.again,g1,g3,g4,lA,ha1,ha2,b0,b0',b1,e1,va,vd]
 refine⟨_,_,w2,rfl,(fJ (by simp +decide only[GS,g1,g4,ag]) ⟨b2,?_,nb b2 o2⟩)⟩
 have e:l++[st.out]++st.args=l++st.out::st.args:=by simp
 rw[<- e]
 exact o2
theorem Sr (h:bK E) {x:aD}{a b c d:V} (ia:IS aQ a x.ins) (ib:IS aQ b x.outs) (ic:IS aQ c x.after)(hsm:x.ins.length<=100000000/\x.outs.length<=100000000/\x.after.length<=100000000) (F:FT) (g1:F.get 1=.ref 0 0) (g2:F.get 2=.bool false) {s:List gT}{Q:Ax.X->Fr->Sg->Prop}
  (hk:∀F' Y w,F'.get 1=.ref 0 0->F'.get 3=w->Y[0]?=some (.cells 46 [.str x.name,a,b,c,d] true)->aV aQ 9 Y w (x.name::(x.ins++(x.outs++x.after)))->aR w≠some 0->M E s .normal ⟨64,F'⟩ Y Q):R E (.region 1 (opsOf (cutAt [1,0] (aA Tryz.f150).code)) true) s ⟨64,F⟩ [.cells 46 [.str x.name,a,b,c,d] true] Q:=by
 obtain⟨F',Y,w,hE,h1,h2,h3,h4,h5⟩:=Sn h ia ib ic hsm F g1 g2 (d:=d)
 exact Eq.mpr (fO hE) (hk F' Y w h1 h2 h3 h4 h5)
theorem Sq (h:bK E) {x:aD}{a b c d:V} (id:IS fQ d x.steps) {st:AxS.Step}{i:Nat}(hi:x.steps[i]?=some st) {Y:Sg}{w:V}{l:List bH} (b0:Y[0]?=some (.cells 46 [.str x.name,a,b,c,d] true)) (ow:aV aQ 9 Y w l) (nw:aR w≠some 0)(hsm:l.length<=500000000/\st.args.length<=100000000)
  (F:FT) (g1:F.get 1=.ref 0 0) (g3:F.get 3=w) (g4:F.get 4=.int .i64 (i:Int)) {s:List gT}{Q:Ax.X->Fr->Sg->Prop}
  (hk:∀F' τ' w',F'.get 1=.ref 0 0->F'.get 3=w'->F'.get 4=.int .i64 (i:Int)->τ'[0]?=some (.cells 46 [.str x.name,a,b,c,d] true)->aV aQ 9 τ' w' (l++st.out::st.args)->aR w'≠some 0->M E s .normal ⟨64,F'⟩ τ' Q) :
  R E (.region 7 (opsOf (cutAt [1,1,0,1,2,2,1,0,2,1] (aA Tryz.f150).code)) true) s ⟨64,F⟩ Y Q:=by
 obtain⟨F',τ',w',hE,h1,h2,h3,h4,h5,h6⟩:=Sm h id hi b0 ow nw hsm F g1 g3 g4
 exact Eq.mpr (fO hE) (hk F' τ' w' h1 h2 h3 h4 h5 h6)
end
end
section
section
variable {E:Env}{Z:Sg}{K:V->Sg->Prop}
def k_ (x:aD) (l:List AxS.Step):List bH:=x.name::(x.ins++(x.outs++x.after))++l.flatMap λs=>s.out::s.args
theorem Ss (x:aD):kT x=(x.steps.all cM&&((k_ x x.steps).all bN&&decide (0<x.outs.length))):=by
 unfold kT k_
 rw[dw]
 simp only[aj,er,OF,bt,IN,j6,jd]
 constructor
 ·rintro⟨⟨⟨⟨⟨h1,h2⟩,h3⟩,h4⟩,h5⟩,h6⟩
  refine⟨λs hs=>(h6 s hs).2,λn hn=>?_,h2⟩
  rcases hn with (rfl | hn | hn | hn) | ⟨s,hs,rfl | hn⟩
  ·exact h1
  ·exact h3 n hn
  ·exact h4 n hn
  ·exact h5 n hn
  ·exact (h6 s hs).1.1
  ·exact (h6 s hs).1.2 n hn
 ·rintro⟨h1,h2,h3⟩
  exact⟨⟨⟨⟨⟨h2 _ (.inl (.inl rfl)),h3⟩,λn hn=>h2 n (.inl (.inr (.inl hn)))⟩,λn hn=>h2 n (.inl (.inr (.inr (.inl hn))))⟩,λn hn=>h2 n (.inl (.inr (.inr (.inr hn))))⟩,
   λs hs=>⟨⟨h2 _ (.inr ⟨s,hs,.inl rfl⟩),λn hn=>h2 n (.inr ⟨s,hs,.inr hn⟩)⟩,h1 s hs⟩⟩
theorem yS {x:aD}(hx:Small x):∀l:List AxS.Step,l.length<=14->(∀s∈l,s.args.length<=8)->(k_ x l).length<=1000:=by
 intro l h1 h2
 have:∀l:List AxS.Step,(∀s∈l,s.args.length<=8)->(l.flatMap λs=>s.out::s.args).length<=9*l.length:=by
  intro l
  induction l with
  |nil=>intro _;simp
  |cons s l ih=>
   intro h
   have:=ih λy hy=>h y (No _ hy)
   have:=h s (By ..)
   simp only[jg,ak,af]
   omega
 have:=this l h2
 have a1:=hx.ins
 have a2:=hx.outs
 have a3:=hx.after
 unfold k_
 simp only[ak,af]
 omega
theorem VU (h:bK E) {v:V}{x:aD}(hv:IP v x)(hx:Small x):aB E 150 [v] Z K=K (.bool (kT x)) Z:=by
 refine aB.of ?_
 have ev:=hv.snap (E:=E) Z
 obtain⟨a,b,c,d,rfl,ia,ib,ic,id⟩:=hv
 have a1:=hx.ins
 have a2:=hx.outs
 have a3:=hx.after
 have a4:=hx.steps
 rw[aI h.ZF h.W_ h.aat h.YK (args':=[.agg [.str x.name,a,b,c,d]]) (by simp only[aW,ev]),aY (by kernel_rfl)]
 have ha:=aN ia.bF
 have hb:=aN ib.bF
 have hc:=aN ic.bF
 have hd:=aN id.bF
 have lb:=bU h ib
 have ld:=lS h id
 rw[Ss]
 simp only[aA,Tryz.f150,KP,↓reduceIte,reduceLT,reduceAdd,h.bM,ha,hb,hc,hd]
 refine Sr h ia ib ic (by omega) _ ?_ ?_ ?_
 ·exact (by simp +decide only[GS])
 ·exact (by simp +decide only[GS])
 intro F1 τ1 w1 g1 g3 b1 o1 n1
 simp only[KP,↓reduceIte,reduceLT]
 refine aS (λi F Y=>Y[0]?=some (.cells 46 [.str x.name,a,b,c,d] true)/\F.get 1=.ref 0 0/\F.get 4=.int .i64 (i:Int)/\(∃w,F.get 3=w/\aV aQ 9 Y w (k_ x (x.steps.take i))/\aR w≠some 0)/\∀j y,j<i->x.steps[j]?=some y->cM y=true) x.steps.length ?_ ?_ x.steps.length 0 _ _ (by omega) ⟨b1,(lV (by simp +decide only[GS,g1,ag]) ⟨⟨w1,(by simp +decide only[GS,g3]),by simpa [k_]using o1,n1⟩,λj y hj=>by omega⟩)⟩
 ·rintro i F Y hi ⟨b0,g1,g4,⟨w,g3,ow,nw⟩,hp⟩ next
  obtain⟨st,hst⟩:∃y,x.steps[i]?=some y:=⟨_,BY hi⟩
  have hmem:=aa hst
  obtain⟨g,p,q,e1,ip,iq⟩:=vJ h id hst
  have hlt:=dG hi
  have hadd:=bQ i (by omega)
  have hlits:=hx.lits st hmem
  have hargs:=hx.args st hmem
  have kf:=λ(Y:Sg)=>MR (Z:=Y) h (v:=.agg [.str st.out,.int .i64 st.op,p,q,.int .i64 st.n]) (x:=st) ⟨p,q,rfl,ip,iq⟩ (by omega)
  rw[aC]
  by_cases hm:cM st=true
  ·simp only[KP,Ax.loadAt,↓reduceIte,reduceEqDiff,reduceLT,reduceAdd,reduceCtorEq,h.gA,h.bM,h.bR,g1,g4,b0,ld,hlt,e1,kf,hm]
   have hln:=yS hx (x.steps.take i) (by rw[br];omega) (λs hs=>hx.args s (jh hs))
   refine Sq h id hst b0 ow nw (by omega) _ ?_ ?_ ?_ ?_
   ·exact (by simp +decide only[GS,g1])
   ·exact (by simp +decide only[GS,g3])
   ·exact (by simp +decide only[GS,g4])
   intro F2 τ2 w2 k1 k3 k4 b2 o2 n2
   simp only[KP,↓reduceIte,reduceLT,k4,hadd]
   refine next _ _ ⟨b2,(lV (by simp +decide only[GS,k1,ag]) ⟨⟨w2,(by simp +decide only[GS,k3]),?_,n2⟩,λj y hj hy=>?_⟩)⟩
   ·have e:k_ x (x.steps.take (i+1))=k_ x (x.steps.take i)++st.out::st.args:=by
     rw[dn,hst];simp[k_]
    rw[e];exact o2
   ·rcases bz j i with g | g
    ·exact hp j y g hy
    ·obtain rfl:j=i:=by omega
     rw[hst]at hy;cases hy;exact hm
  ·have hm:cM st=false:=by simpa using hm
   rw[iK hst hm,ni]
   simp only[KP,Ax.loadAt,↓reduceIte,reduceEqDiff,reduceLT,reduceAdd,reduceCtorEq,h.gA,h.bM,h.bR,g1,g4,b0,ld,hlt,e1,kf,hm]
   exact rfl
 ·rintro F Y ⟨b0,g1,g4,⟨w,g3,ow,nw⟩,hp⟩
  have hlt:=dH (b9 x.steps.length)
  rw[aC]
  rw[AM λj y _ hy=>hp j y (AI.1 hy).1 hy,jf]
  rw[ah (ae _)]at ow
  have hln:=yS hx x.steps (by omega) hx.args
  generalize k_ x x.steps=L at *
  have lw:∀σ',(σ'=Y)->lenOf E σ' 24 w=some L.length:=λσ' e=>by subst e;exact mZ h.bC rfl ow.ls
  have lw:=lw Y rfl
  simp only[KP,Ax.loadAt,↓reduceIte,reduceEqDiff,reduceLT,reduceCtorEq,h.gA,h.bM,g1,g4,b0,ld,hlt]
  refine aS (λi F σ1=>σ1=Y/\F.get 1=.ref 0 0/\F.get 3=w/\F.get 5=.int .i64 (i:Int)/\∀j y,j<i->L[j]?=some y->bN y=true) L.length ?_ ?_ L.length 0 _ _ (by omega) ⟨rfl,(fJ (by simp +decide only[GS,g1,g3,ag]) (λj y hj=>by omega))⟩
  ·rintro i F σ1 hi ⟨rfl,g1,g3,g5,hq⟩ next
   obtain⟨y,hy⟩:∃y,L[i]?=some y:=⟨_,BY hi⟩
   have hlt:=dG hi
   have hadd:=bQ i (by omega)
   obtain⟨p,r,e1,hr,-,e2,-⟩:=DJ (Z:=σ1) h.bC rfl h.c_ rfl ow.ls hy
   have e2:=e2 rfl (by decide)
   rw[show r=[.str y] from hr]at e2
   have kf:=λ(Y:Sg)=>PB (Z:=Y) h (s:=y)
   rw[aC]
   by_cases hm:bN y=true
   ·simp only[KP,↓reduceIte,reduceEqDiff,reduceLT,g3,g5,lw,hlt,e1,e2,kf,hm,hadd]
    refine next _ _ ⟨rfl,(fJ (by simp +decide only[GS,g1,g3,ag]) (λj z hj hz=>?_))⟩
    rcases bz j i with g | g
    ·exact hq j z g hz
    ·obtain rfl:j=i:=by omega
     rw[hy]at hz;cases hz;exact hm
   ·have hm:bN y=false:=by simpa using hm
    rw[iK hy hm,ni]
    simp only[KP,↓reduceIte,reduceEqDiff,reduceLT,g3,g5,lw,hlt,e1,e2,kf,hm]
    exact rfl
  ·rintro F σ1 ⟨rfl,g1,g3,g5,hq⟩
   have hlt:=dH (b9 L.length)
   rw[aC]
   rw[AM λj y _ hy=>hq j y (AI.1 hy).1 hy,jf]
   have q:decide ((0:Int)<(x.outs.length:Int))=decide (0<x.outs.length):=by
    by_cases g:0<x.outs.length
    ·rw[AT g,AT (by omega)]
    ·rw[AS g,AS (by omega)]
   simp only[KP,Ax.loadAt,↓reduceIte,reduceEqDiff,reduceLT,reduceCtorEq,h.bC,h.bM,g1,g3,g5,lw,hlt,b0,lb,q]
   exact rfl
theorem Vh (h:bK E) {v:V}{x:aD}(hv:IP v x)(hx:Small x):KC E 150 [v] Z (.bool (kT x)) Z:=cU λ_=>VU h hv hx
end
end
section
section
variable {E:Env}{Z:Sg}{K:V->Sg->Prop}
theorem uM {α:Type}{p:α->Bool}{l:List α}:(bI p l).isNone = !l.any p:=by
 rw[<- cI (p:=p) (l:=l)]
 cases bI p l <;> rfl
theorem Lx {l:List bH}{s:bH}(h:s∈l):(bI (λy=>decide (y=s)) l).isSome=true:=by rw[cI,any_eq];exact AT h
theorem Lz {l:List bH}{s:bH}(h:s ∉ l):(bI (λy=>decide (y=s)) l).isSome=false:=by rw[cI,any_eq];exact AS h
theorem PO {l:List bH}{s:bH}(h:s ∉ l):(bI (λy=>decide (y=s)) l).isNone=true:=by rw[uM,any_eq,AS h];rfl
theorem PS {l:List bH}{s:bH}(h:s∈l):(bI (λy=>decide (y=s)) l).isNone=false:=by rw[uM,any_eq,AT h];rfl
theorem aL {Y:Sg}{x:O}:(Y++[x])[Y.length]?=some x:=by simp
theorem cA {Y:Sg}{x y:O}:(Y++[x]).set Y.length y=Y++[y]:=by simp
theorem aJ {Y:Sg}{x y:O}{i:Nat}(h:Y[i]?=some y):(Y++[x])[i]?=some y:=by rw[aq (AI.1 h).1];exact h
theorem kR {Y:Sg}{w:V}{l:List bH}{k u:Nat}{cs:List V}(hb:Y[k]?=some (.cells u cs true))(hu:u≠9) (ow:aV aQ 9 Y w l):aR w≠some k:=by
 rcases ow with⟨rfl,-⟩ | ⟨b,rs,ex,rfl,hc,-⟩
 ·intro e;cases e
 ·intro e;cases e;rw[hb]at hc;cases hc;exact hu rfl
theorem Oy (h:bK E) {x:aD}{a b c d w:V}{Y:Sg}{Ks:List bH} (ia:IS aQ a x.ins) (ib:IS aQ b x.outs)(hx:Small x)(hK:Ks.length<=14) (b0:Y[0]?=some (.cells 46 [.str x.name,a,b,c,d] true)) (ow:aV aQ 9 Y w Ks) (F:FT) (g1:F.get 1=.ref 0 0) (g3:F.get 3=w)
  (hk:K (.int .i64 (if (x.outs.all λo=>!decide (o∈x.ins)&&decide (o∈Ks))=true then 0 else 2)) Y):R E (cutAt [1,1,1,1] (aA Tryz.f112).code) [] ⟨139,F⟩ Y (mS E (aA Tryz.f112).results K):=by
 have a1:=hx.ins
 have a2:=hx.outs
 have lb:=bU h ib
 have d23:=h.SY
 simp only[aA,Tryz.f112,cutAt,an]at d23
 simp only[aA,Tryz.f112,KP,↓reduceIte,reduceLT,cutAt]
 refine aS (λi F σ1=>σ1=Y/\F.get 1=.ref 0 0/\F.get 3=w/\F.get 7=.int .i64 (i:Int)/\∀j y,j<i->x.outs[j]?=some y->y ∉ x.ins/\y∈Ks) x.outs.length ?_ ?_ x.outs.length 0 _ _ (by omega) ⟨rfl,(fJ (by simp +decide only[GS,g1,g3,ag]) (λj y hj=>by omega))⟩
 ·rintro i F σ1 hi ⟨rfl,g1,g3,g7,hp⟩ next
  obtain⟨y,hy⟩:∃y,x.outs[i]?=some y:=⟨_,BY hi⟩
  obtain⟨g,e1⟩:=g_ h ib hy
  have hlt:=dG hi
  have hadd:=bQ i (by omega)
  have k1:=sK (Z:=σ1) h (a:=a) (l:=x.ins) (s:=y) (ia.ls σ1 9) (by omega)
  have k2:=sK (Z:=σ1) h (a:=w) (l:=Ks) (s:=y) ow.ls (by omega)
  rw[aC]
  by_cases h1:y∈x.ins
  ·have s1:=Lx h1
   rw[az (by rw[iK hy (by rw[AT h1];rfl)];simp)]at hk
   simp only[KP,Ax.loadAt,↓reduceIte,reduceEqDiff,reduceLT,reduceCtorEq,h.c_,h.bC,h.bM,g1,g7,lb,hlt,b0,e1,k1,kS,s1,aK d23,bB]
   exact hk
  have s1:=Lz h1
  by_cases h2:y∈Ks
  ·have s2:=PS h2
   simp only[KP,Ax.loadAt,↓reduceIte,reduceEqDiff,reduceLT,reduceCtorEq,h.c_,h.bC,h.bM,g1,g3,g7,lb,hlt,b0,e1,k1,k2,kS,Dc,s1,s2,hadd,aK d23,bB]
   refine next _ _ ⟨rfl,(fJ (by simp +decide only[GS,g1,g3,ag]) (λj z hj hz=>?_))⟩
   rcases bz j i with g | g
   ·exact hp j z g hz
   ·obtain rfl:j=i:=by omega
    rw[hy]at hz;cases hz;exact⟨h1,h2⟩
  ·have s2:=PO h2
   rw[az (by rw[iK hy (by rw[AS h2];simp)];simp)]at hk
   simp only[KP,Ax.loadAt,↓reduceIte,reduceEqDiff,reduceLT,reduceCtorEq,h.c_,h.bC,h.bM,g1,g3,g7,lb,hlt,b0,e1,k1,k2,kS,Dc,s1,s2,aK d23,bB]
   exact hk
 ·rintro F σ1 ⟨rfl,g1,g3,g7,hp⟩
  have hlt:=dH (b9 x.outs.length)
  rw[aC]
  rw[bf (AM λj y _ hy=>by
   obtain⟨h1,h2⟩:=hp j y (AI.1 hy).1 hy
   rw[AS h1,AT h2];rfl)]at hk
  simp only[KP,Ax.loadAt,↓reduceIte,reduceEqDiff,reduceLT,reduceCtorEq,h.bC,h.bM,g1,g7,lb,hlt,b0]
  exact hk
def NX (x:aD) (i:Nat) (s:AxS.Step):Prop:=s.out ∉ x.ins++(x.steps.take i).map Step.out/\∀y∈s.args,y∈x.ins++(x.steps.take i).map Step.out
theorem tX:∀(l:List AxS.Step) (known:List bH),iP known l=true ↔ ∀i s,l[i]?=some s->s.out ∉ known++(l.take i).map Step.out/\∀y∈s.args,y∈known++(l.take i).map Step.out
 | [],known=>by simp[iP]
 |s::l,known=>by
  rw[iP,aj,aj,tX l]
  simp only[gu,decide_eq_false_iff_not,er,OF]
  constructor
  ·rintro⟨⟨h1,h2⟩,h3⟩ i t ht
   cases i with
   |zero=>cases ht;simpa using ⟨h1,h2⟩
   |succ i=>have:=h3 i t ht;simpa using this
  ·intro h0
   refine⟨by simpa using h0 0 s rfl,λi t ht=>?_⟩
   have:=h0 (i+1) t ht
   simpa using this
theorem Jp (h:bK E) {x:aD}{a b c d:V} (ia:IS aQ a x.ins) (ib:IS aQ b x.outs) (id:IS fQ d x.steps)(hx:Small x) (F:FT) (g1:F.get 1=.ref 0 0)
  (hk:∀Y,K (.int .i64 (if iP x.ins x.steps=true/\(x.outs.all λo=>!decide (o∈x.ins)&&decide (o∈x.steps.map Step.out))=true then 0 else 2)) Y):R E (cutAt [1,1] (aA Tryz.f112).code) [] ⟨139,F⟩ [.cells 46 [.str x.name,a,b,c,d] true] (mS E (aA Tryz.f112).results K):=by
 have a1:=hx.ins
 have a4:=hx.steps
 have ld:=lS h id
 have fin:=λY w b0 ow F g1 g3 hk=>Oy (K:=K) h ia ib hx (c:=c) (d:=d) (w:=w) (Y:=Y) (Ks:=x.steps.map Step.out) (by rw[bg];omega) b0 ow F g1 g3 hk
 have d17:=h.SZ
 simp only[aA,Tryz.f112,cutAt,an]at d17
 rw[show cutAt [1,1] (aA Tryz.f112).code=.seq (cutAt [1,1,0] (aA Tryz.f112).code) (.seq (cutAt [1,1,1,0] (aA Tryz.f112).code) (cutAt [1,1,1,1] (aA Tryz.f112).code)) from rfl]
 generalize cutAt [1,1,1,1] (aA Tryz.f112).code=C at *
 simp only[aA,Tryz.f112,KP,↓reduceIte,reduceLT,cutAt]
 refine aS (λi F Y=>Y[0]?=some (.cells 46 [.str x.name,a,b,c,d] true)/\F.get 1=.ref 0 0/\F.get 4=.int .i64 (i:Int)/\(∃w,F.get 3=w/\aV aQ 9 Y w ((x.steps.take i).map Step.out))/\∀j s,j<i->x.steps[j]?=some s->NX x j s) x.steps.length ?_ ?_ x.steps.length 0 _ _ (by omega) ⟨rfl,(lV (by simp +decide only[GS,g1,ag]) ⟨⟨.aF,(by simp +decide only[GS]),.inl ⟨rfl,rfl⟩⟩,λj y hj=>by omega⟩)⟩
 ·rintro i F Y hi ⟨b0,g1,g4,⟨w,g3,ow⟩,hp⟩ next
  obtain⟨st,hst⟩:∃y,x.steps[i]?=some y:=⟨_,BY hi⟩
  have hmem:=aa hst
  have a5:=hx.args st hmem
  obtain⟨g,p,q,e1,ip,iq⟩:=vJ h id hst
  have hop:=aN ip.bF
  have hoq:=aN iq.bF
  have hlt:=dG hi
  have hadd:=bQ i (by omega)
  have lp:=bU h ip
  have hKl:((x.steps.take i).map Step.out).length<=14:=by rw[bg,br];omega
  have bx:(Y++[O.cells 113 [.str st.out,.int .i64 st.op,p,q,.int .i64 st.n] true])[Y.length]?=some (.cells 113 [.str st.out,.int .i64 st.op,p,q,.int .i64 st.n] true):=aL
  have b1:=aJ (x:=O.cells 113 [.str st.out,.int .i64 st.op,p,q,.int .i64 st.n] true) b0
  have o1:=ow.app [O.cells 113 [.str st.out,.int .i64 st.op,p,q,.int .i64 st.n] true]
  have hbad:∀Y,¬ NX x i st->K (.int .i64 2) Y:=λY hn=>by
   have:=hk Y
   rwa [az (λe=>hn ((tX _ _).1 e.1 i st hst))]at this
  have k1:=sK (Z:=Y++[O.cells 113 [.str st.out,.int .i64 st.op,p,q,.int .i64 st.n] true]) h (a:=a) (l:=x.ins) (s:=st.out) (ia.ls _ 9) (by omega)
  have k2:=sK (Z:=Y++[O.cells 113 [.str st.out,.int .i64 st.op,p,q,.int .i64 st.n] true]) h (a:=w) (l:=(x.steps.take i).map Step.out) (s:=st.out) o1.ls (by omega)
  rw[aC]
  by_cases h1:st.out∈x.ins
  ·have s1:=Lx h1
   simp only[KP,Ax.loadAt,Ax.storeAt,↓reduceIte,reduceEqDiff,reduceLT,reduceAdd,reduceCtorEq,h.c_,h.bC,h.gA,h.bM,h.bR,g1,g4,ld,hlt,b0,e1,hop,hoq,aL,cA,b1,bx,k1,kS,s1]
   exact hbad _ λe=>e.1 (List.mem_append_left _ h1)
  have s1:=Lz h1
  by_cases h2:st.out∈(x.steps.take i).map Step.out
  ·have s2:=Lx h2
   simp only[KP,Ax.loadAt,Ax.storeAt,↓reduceIte,reduceEqDiff,reduceLT,reduceAdd,reduceCtorEq,h.c_,h.bC,h.gA,h.bM,h.bR,g1,g3,g4,ld,hlt,b0,e1,hop,hoq,aL,cA,b1,bx,k1,k2,kS,s1,s2]
   exact hbad _ λe=>e.1 (jx _ h2)
  have s2:=Lz h2
  simp only[KP,Ax.loadAt,Ax.storeAt,↓reduceIte,reduceEqDiff,reduceLT,reduceAdd,reduceCtorEq,h.c_,h.bC,h.gA,h.bM,h.bR,g1,g3,g4,ld,hlt,b0,e1,hop,hoq,aL,cA,b1,bx,k1,k2,kS,s1,s2]
  generalize hτ:Y++[O.cells 113 [.str st.out,.int .i64 st.op,p,q,.int .i64 st.n] true]=τ1 at *
  generalize Y.length=nx at *
  refine aS (λk F σ1=>σ1=τ1/\F.get 1=.ref 0 0/\F.get 3=w/\F.get 4=.int .i64 (i:Int)/\F.get 5=.ref nx 0/\F.get 6=.int .i64 (k:Int)/\∀j y,j<k->st.args[j]?=some y->y∈x.ins++(x.steps.take i).map Step.out) st.args.length ?_ ?_ st.args.length 0 _ _ (by omega) ⟨rfl,(iY (by simp +decide only[GS,g1,g3,g4,ag]) (λj y hj=>by omega))⟩
  ·rintro k F σ1 hk2 ⟨rfl,g1,g3,g4,g5,g6,hq⟩ next2
   obtain⟨y,hy⟩:∃y,st.args[k]?=some y:=⟨_,BY hk2⟩
   obtain⟨g,e2⟩:=g_ h ip hy
   have hlt2:=dG hk2
   have hadd2:=bQ k (by omega)
   have k3:=sK (Z:=σ1) h (a:=a) (l:=x.ins) (s:=y) (ia.ls _ 9) (by omega)
   have k4:=sK (Z:=σ1) h (a:=w) (l:=(x.steps.take i).map Step.out) (s:=y) o1.ls (by omega)
   rw[aC]
   by_cases h3:y∈x.ins
   ·have s3:=PS h3
    simp only[KP,Ax.loadAt,↓reduceIte,reduceEqDiff,reduceLT,reduceCtorEq,h.c_,h.bC,h.bM,h.bR,g1,g5,g6,lp,hlt2,b1,bx,e2,k3,Dc,s3,hadd2,aK d17,bB]
    refine next2 _ _ ⟨rfl,(iY (by simp +decide only[GS,g1,g3,g4,g5,ag]) (λj z hj hz=>?_))⟩
    rcases bz j k with g | g
    ·exact hq j z g hz
    ·obtain rfl:j=k:=by omega
     rw[hy]at hz;cases hz;exact List.mem_append_left _ h3
   have s3:=PO h3
   by_cases h4:y∈(x.steps.take i).map Step.out
   ·have s4:=PS h4
    simp only[KP,Ax.loadAt,↓reduceIte,reduceEqDiff,reduceLT,reduceCtorEq,h.c_,h.bC,h.bM,h.bR,g1,g3,g5,g6,lp,hlt2,b1,bx,e2,k3,k4,Dc,s3,s4,hadd2,aK d17,bB]
    refine next2 _ _ ⟨rfl,(iY (by simp +decide only[GS,g1,g3,g4,g5,ag]) (λj z hj hz=>?_))⟩
    rcases bz j k with g | g
    ·exact hq j z g hz
    ·obtain rfl:j=k:=by omega
     rw[hy]at hz;cases hz;exact jx _ h4
   ·have s4:=PO h4
    simp only[KP,Ax.loadAt,↓reduceIte,reduceEqDiff,reduceLT,reduceCtorEq,h.c_,h.bC,h.bM,h.bR,g1,g3,g5,g6,lp,hlt2,b1,bx,e2,k3,k4,Dc,s3,s4,aK d17,bB]
    exact hbad _ λe=>(bt.1 (e.2 y (aa hy))).elim h3 h4
  ·rintro F σ1 ⟨rfl,g1,g3,g4,g5,g6,hq⟩
   have hlt2:=dH (b9 st.args.length)
   obtain⟨w2,τ2,ha2,o2,k2',n2⟩:=Gw (s:=st.out) (ex:=true) h o1 (by omega)
   rw[aC]
   simp only[KP,Ax.loadAt,↓reduceIte,reduceEqDiff,reduceLT,reduceLeDiff,reduceMul,reduceCtorEq,h.c_,h.bC,h.bR,g3,g4,g5,g6,lp,hlt2,bx,lA,ha2,hadd]
   have b2:τ2[0]?=some (.cells 46 [.str x.name,a,b,c,d] true):=k2' 0 _ (aJ b1) (kR b1 (by decide) o1)
   refine next _ _ ⟨b2,(lV (by simp +decide only[GS,g1,ag]) ⟨⟨w2,(by simp +decide only[GS]),?_⟩,λj s hj hs=>?_⟩)⟩
   ·have e:(x.steps.take (i+1)).map Step.out=(x.steps.take i).map Step.out++[st.out]:=by rw[dn,hst];simp
    rw[e];exact o2
   ·rcases bz j i with g | g
    ·exact hp j s g hs
    ·obtain rfl:j=i:=by omega
     rw[hst]at hs;cases hs
     exact⟨λe=>(bt.1 e).elim h1 h2,λy hy=>by
      obtain⟨n,hn,e⟩:=ez hy
      exact hq n y hn (by rw[BY hn,e])⟩
 ·rintro F Y ⟨b0,g1,g4,⟨w,g3,ow⟩,hp⟩
  have hlt:=dH (b9 x.steps.length)
  rw[ah (ae _)]at ow
  have hst:iP x.ins x.steps=true:=(tX _ _).2 λi s hs=>hp i s (AI.1 hs).1 hs
  have hk:=hk Y
  rw[hst]at hk
  simp only[true_and]at hk
  rw[aC]
  simp only[KP,Ax.loadAt,↓reduceIte,reduceEqDiff,reduceLT,reduceCtorEq,h.gA,h.bM,g1,g4,ld,hlt,b0]
  exact fin Y w b0 ow _ (by simp +decide only[GS,g1]) (by simp +decide only[GS,g3]) hk
end
end
section
section
variable {E:Env}{Z:Sg}{K:V->Sg->Prop}
theorem O4 (x:aD):fV x=(!kW x.ins&&(!kW x.outs&&(!kW x.after&&(!decide (x.name∈x.after)&&(iP x.ins x.steps&&x.outs.all λo=>!decide (o∈x.ins)&&decide (o∈x.steps.map Step.out)))))):=by
 unfold fV
 rw[dw]
 simp only[aj,er,OF,gu,decide_eq_false_iff_not,bt]
 constructor
 ·rintro⟨⟨⟨⟨⟨⟨h1,h2⟩,h3⟩,h4⟩,h5⟩,h6⟩,h7⟩
  exact⟨h1,h2,h3,h4,h6,λo ho=>⟨h5 o ho,(h7 o ho).resolve_left (h5 o ho)⟩⟩
 ·rintro⟨h1,h2,h3,h4,h6,h7⟩
  exact⟨⟨⟨⟨⟨⟨h1,h2⟩,h3⟩,h4⟩,λo ho=>(h7 o ho).1⟩,h6⟩,λo ho=>.inr (h7 o ho).2⟩
theorem Nl (h:bK E) {v:V}{x:aD}(hv:IP v x)(hx:Small x):aB E 112 [v] Z K=K (.int .i64 (bE x)) Z:=by
 refine aB.of ?_
 have ev:=hv.snap (E:=E) Z
 obtain⟨a,b,c,d,rfl,ia,ib,ic,id⟩:=hv
 have a1:=hx.ins
 have a2:=hx.outs
 have a3:=hx.after
 have a4:=hx.steps
 rw[aI h.ZQ h.Xk h.aaE h.YV (args':=[.agg [.str x.name,a,b,c,d]]) (by simp only[aW,ev]),aY (by kernel_rfl)]
 have ha:=aN ia.bF
 have hb:=aN ib.bF
 have hc:=aN ic.bF
 have hd:=aN id.bF
 have la:=bU h ia
 have lb:=bU h ib
 have lc:=bU h ic
 have ld:=lS h id
 have kf:=λ(Y:Sg)=>Vh (Z:=Y) h (v:=.agg [.str x.name,a,b,c,d]) (x:=x) ⟨a,b,c,d,rfl,ia,ib,ic,id⟩ hx
 have key:=λF g1 hk=>Jp (K:=λv σ1=>match cG σ1 E.ty false v with
    |some v=>v=.int .i64 (bE x)
    |none=>False) h ia ib id hx (c:=c) F g1 hk
 rw[show (aA Tryz.f112).code=.seq (cutAt [0] (aA Tryz.f112).code) (.seq (cutAt [1,0] (aA Tryz.f112).code) (cutAt [1,1] (aA Tryz.f112).code)) from rfl]
 generalize cutAt [1,1] (aA Tryz.f112).code=C at *
 by_cases f:kT x=true
 case neg=>
  have f:kT x=false:=by simpa using f
  rw[show bE x=1 from bf f]
  simp only[aA,Tryz.f112,KP,Ax.loadAt,↓reduceIte,reduceEqDiff,reduceLT,reduceAdd,h.bM,cutAt,ha,hb,hc,hd,kf,f]
  exact rfl
 have r1:bE x=if long x=true then 4 else if fV x=false then 2 else 0:=az (by simp[f])
 have q1:decide ((8:Int)<(x.ins.length:Int))=decide (8<x.ins.length):=by rw[dw];simp only[OF];omega
 have q2:decide ((4:Int)<(x.outs.length:Int))=decide (4<x.outs.length):=by rw[dw];simp only[OF];omega
 have q3:decide ((8:Int)<(x.after.length:Int))=decide (8<x.after.length):=by rw[dw];simp only[OF];omega
 have q4:decide ((12:Int)<(x.steps.length:Int))=decide (12<x.steps.length):=by rw[dw];simp only[OF];omega
 by_cases hl:long x=true
 ·rw[r1,bf hl]
  unfold long at hl
  cases l1:decide (8<x.ins.length) with
  |true=>
   simp only[aA,Tryz.f112,KP,Ax.loadAt,↓reduceIte,reduceEqDiff,reduceLT,reduceAdd,reduceCtorEq,h.bC,h.bM,cutAt,ha,hb,hc,hd,kf,f,la,q1,l1]
   exact rfl
  |false=>
   cases l2:decide (4<x.outs.length) with
   |true=>
    simp only[aA,Tryz.f112,KP,Ax.loadAt,↓reduceIte,reduceEqDiff,reduceLT,reduceAdd,reduceCtorEq,h.bC,h.bM,cutAt,ha,hb,hc,hd,kf,f,la,lb,q1,q2,l1,l2]
    exact rfl
   |false=>
    cases l3:decide (8<x.after.length) with
    |true=>
     simp only[aA,Tryz.f112,KP,Ax.loadAt,↓reduceIte,reduceEqDiff,reduceLT,reduceAdd,reduceCtorEq,h.bC,h.bM,cutAt,ha,hb,hc,hd,kf,f,la,lb,lc,q1,q2,q3,l1,l2,l3]
     exact rfl
    |false=>
     have l4:decide (12<x.steps.length)=true:=by rw[l1,l2,l3]at hl;simpa using hl
     simp only[aA,Tryz.f112,KP,Ax.loadAt,↓reduceIte,reduceEqDiff,reduceLT,reduceAdd,reduceCtorEq,h.bC,h.gA,h.bM,cutAt,ha,hb,hc,hd,kf,f,la,lb,lc,ld,q1,q2,q3,q4,l1,l2,l3,l4]
     exact rfl
 rw[az hl,O4]at r1
 have hl:long x=false:=by simpa using hl
 unfold long at hl
 simp only[Bool.or_eq_false_iff]at hl
 obtain⟨⟨⟨l1,l2⟩,l3⟩,l4⟩:=hl
 have t1:=λ(Y:Sg)=>Gd (Z:=Y) h (a:=a) (l:=x.ins) (ia.ls Y 9) (by omega)
 have t2:=λ(Y:Sg)=>Gd (Z:=Y) h (a:=b) (l:=x.outs) (ib.ls Y 9) (by omega)
 have t3:=λ(Y:Sg)=>Gd (Z:=Y) h (a:=c) (l:=x.after) (ic.ls Y 9) (by omega)
 have t4:=λ(Y:Sg)=>sK (Z:=Y) h (a:=c) (l:=x.after) (s:=x.name) (ic.ls Y 9) (by omega)
 cases w1:kW x.ins with
 |true=>
  rw[show bE x=2 from by rw[r1,w1];rfl]
  simp only[aA,Tryz.f112,KP,Ax.loadAt,↓reduceIte,reduceEqDiff,reduceLT,reduceAdd,reduceCtorEq,h.bC,h.gA,h.bM,cutAt,ha,hb,hc,hd,kf,f,la,lb,lc,ld,q1,q2,q3,q4,l1,l2,l3,l4,t1,w1]
  exact rfl
 |false=>
 cases w2:kW x.outs with
 |true=>
  rw[show bE x=2 from by rw[r1,w1,w2];rfl]
  simp only[aA,Tryz.f112,KP,Ax.loadAt,↓reduceIte,reduceEqDiff,reduceLT,reduceAdd,reduceCtorEq,h.bC,h.gA,h.bM,cutAt,ha,hb,hc,hd,kf,f,la,lb,lc,ld,q1,q2,q3,q4,l1,l2,l3,l4,t1,w1,t2,w2]
  exact rfl
 |false=>
 cases w3:kW x.after with
 |true=>
  rw[show bE x=2 from by rw[r1,w1,w2,w3];rfl]
  simp only[aA,Tryz.f112,KP,Ax.loadAt,↓reduceIte,reduceEqDiff,reduceLT,reduceAdd,reduceCtorEq,h.bC,h.gA,h.bM,cutAt,ha,hb,hc,hd,kf,f,la,lb,lc,ld,q1,q2,q3,q4,l1,l2,l3,l4,t1,w1,t2,w2,t3,w3]
  exact rfl
 |false=>
 by_cases w4:x.name∈x.after
 ·have s4:=Lx w4
  rw[show bE x=2 from by rw[r1,w1,w2,w3,AT w4];rfl]
  simp only[aA,Tryz.f112,KP,Ax.loadAt,↓reduceIte,reduceEqDiff,reduceLT,reduceAdd,reduceCtorEq,h.c_,h.bC,h.gA,h.bM,cutAt,ha,hb,hc,hd,kf,f,la,lb,lc,ld,q1,q2,q3,q4,l1,l2,l3,l4,t1,w1,t2,w2,t3,w3,t4,kS,s4]
  exact rfl
 ·have s4:=Lz w4
  rw[w1,w2,w3,AS w4]at r1
  simp only[aA,Tryz.f112,KP,Ax.loadAt,↓reduceIte,reduceEqDiff,reduceLT,reduceAdd,reduceCtorEq,h.c_,h.bC,h.gA,h.bM,cutAt,ha,hb,hc,hd,kf,f,la,lb,lc,ld,q1,q2,q3,q4,l1,l2,l3,l4,t1,w1,t2,w2,t3,w3,t4,kS,s4]
  refine key _ (by simp +decide only[GS]) λY=>?_
  show V.int .i64 _=V.int .i64 (bE x)
  rw[r1]
  refine au _ ?_
  by_cases e:iP x.ins x.steps=true/\(x.outs.all λo=>!decide (o∈x.ins)&&decide (o∈x.steps.map Step.out))=true
  ·rw[bf e,e.1,e.2];rfl
  ·rw[az e,bf]
   simp only[kz,jf]
   cases u1:iP x.ins x.steps with
   |false=>rfl
   |true=>
    cases u2:(x.outs.all λo=>!decide (o∈x.ins)&&decide (o∈x.steps.map Step.out)) with
    |false=>rfl
    |true=>exact absurd ⟨u1,u2⟩ e
theorem MM (h:bK E) {v:V}{x:aD}(hv:IP v x)(hx:Small x):KC E 112 [v] Z (.int .i64 (bE x)) Z:=cU λ_=>Nl h hv hx
end
end
section
section
variable {E:Env}{Z:Sg}{K:V->Sg->Prop}
def lW (n:Nat) (g:Nat->Bool):List V:=(List.range n).map λk=>V.bool (g k)
def sA (n i:Nat):List V:=(List.range i).map (λj=>V.sl (j+1) 0 n none)++List.replicate (n-i) .aF
def p_ (ex:Bool) (n i:Nat) (c:Nat->Nat->Bool):Sg:=.cells 99 (sA n i) true::(List.range i).map λj=>O.cells 4 (lW n (c j)) ex
def FZ (n:Nat) (c:Nat->Nat->Bool):List (List Bool):=(List.range n).map λi=>(List.range n).map (c i)
def H_ (c:Nat->Nat->Bool) (i k:Nat) (b:Bool):Nat->Nat->Bool:=λx y=>if x=i/\y=k then b else c x y
theorem l_ {n:Nat}{g:Nat->Bool}:(lW n g).length=n:=by simp[lW]
theorem pK {n i:Nat}(h:i<=n):(sA n i).length=n:=by simp[sA];omega
theorem uD {n i j:Nat}(h:j<i):(sA n i)[j]?=some (.sl (j+1) 0 n none):=by
 unfold sA
 rw[aq (by simpa using h)]
 simp[h]
theorem yB {n k:Nat}{g:Nat->Bool}(h:k<n):(lW n g)[k]?=some (.bool (g k)):=by simp[lW,h]
theorem De {ex:Bool}{n i:Nat}{c:Nat->Nat->Bool}:(p_ ex n i c).length=i+1:=by simp[p_]
theorem ZU {ex:Bool}{n i:Nat}{c:Nat->Nat->Bool}:(p_ ex n i c)[0]?=some (.cells 99 (sA n i) true):=rfl
theorem Dd {ex:Bool}{n i j:Nat}{c:Nat->Nat->Bool}(h:j<i):(p_ ex n i c)[j+1]?=some (.cells 4 (lW n (c j)) ex):=by
 simp[p_,h]
theorem Gf (h:bK E) {n j:Nat}(hj:j<n):indexAddr E 61 (.sl 0 0 n none) (.int .i64 (j:Int))=some (.ref 0 j):=by
 have hneg:¬ ((j:Int)<0):=by omega
 unfold indexAddr
 simp only[hneg,ay,h.tQ,h.oB,cv,hj,bh,dj,mj]
theorem C9 (h:bK E) {n j k:Nat}(hk:k<n):indexAddr E 99 (.sl (j+1) 0 n none) (.int .i64 (k:Int))=some (.ref (j+1) k):=by
 have hneg:¬ ((k:Int)<0):=by omega
 unfold indexAddr
 simp only[hneg,ay,h.oB,h.tR,cv,hk,bh,dj,mj]
theorem F9 (h:bK E) {ex:Bool}{n i j:Nat}{c:Nat->Nat->Bool}(hj:j<i):loadAt E (p_ ex n i c) 99 (.ref 0 j)=some (.sl (j+1) 0 n none):=by
 unfold loadAt
 simp only[h.oB,ZU,Ax.isAgg,ai,ay,uD hj]
theorem JK (h:bK E) {ex:Bool}{n i j k:Nat}{c:Nat->Nat->Bool}(hj:j<i)(hk:k<n):loadAt E (p_ ex n i c) 4 (.ref (j+1) k)=some (.bool (c j k)):=by
 unfold loadAt
 simp only[h.tR,Dd hj,Ax.isAgg,ai,ay,yB hk]
theorem OB {n k:Nat}{g:Nat->Bool}{b:Bool}(hk:k<n):setCells (lW n g) k [.bool b]=lW n (λy=>if y=k then b else g y):=by
 have e:setCells (lW n g) k [.bool b]=(lW n g).set k (.bool b):=by
  unfold setCells
  rw[List.set_eq_take_append_cons_drop,bf (by rw[l_];exact hk)]
  simp
 rw[e]
 apply jt
 intro i
 by_cases hi:i<n
 ·by_cases hik:k=i
  ·subst hik
   rw[bj (by rw[l_];exact hk),yB hk,bf rfl]
  ·rw[IT hik,yB hi,yB hi,az (λe=>hik e.symm)]
 ·rw[gv (by rw[ec,l_];omega),gv (by rw[l_];omega)]
theorem Jg (h:bK E) {ex:Bool}{n i j k:Nat}{c:Nat->Nat->Bool}{b:Bool}(hj:j<i)(hk:k<n):storeAt E (p_ ex n i c) 4 (.ref (j+1) k) (.bool b)=some (p_ ex n i (H_ c j k b)):=by
 unfold storeAt
 simp only[h.tR,Dd hj]
 rw[bf (by simp only[V.cells,V.aZ,af,b8,ig,js,l_,ki,aj,OF];exact⟨rfl,by omega⟩)]
 refine au some ?_
 rw[show V.cells (.bool b)=[.bool b] from rfl,OB hk]
 apply jt
 intro q
 cases q with
 |zero=>rw[IT (by omega)];rfl
 |succ q=>
  by_cases hq:q<i
  ·rw[Dd hq]
   by_cases hjq:j=q
   ·subst hjq
    rw[bj (by rw[De];omega)]
    congr 2
    unfold lW
    refine jm λy _=>?_
    simp[H_]
   ·rw[IT (by omega),Dd hq]
    congr 2
    unfold lW
    refine jm λy _=>?_
    have:¬ (q=j/\y=k):=λe=>hjq e.1.symm
    simp[H_,this]
  ·rw[gv (by rw[ec,De];omega),gv (by rw[De];omega)]
theorem NZ (h:bK E) {ex:Bool}{n i:Nat}{c:Nat->Nat->Bool}(hi:i<n):storeAt E (p_ ex n i c++[.cells 4 (lW n (c i)) ex]) 99 (.ref 0 i) (.sl (i+1) 0 n none)=some (p_ ex n (i+1) c):=by
 unfold storeAt
 have h0:(p_ ex n i c++[O.cells 4 (lW n (c i)) ex])[0]?=some (.cells 99 (sA n i) true):=rfl
 simp only[h.oB,h0]
 rw[bf (by simp only[V.cells,V.aZ,af,b8,ig,js,pK (Nat.le_of_lt hi),ki,aj,OF];exact⟨rfl,by omega⟩)]
 refine au some ?_
 have e:setCells (sA n i) i [.sl (i+1) 0 n none]=sA n (i+1):=by
  unfold setCells
  apply jt
  intro q
  have hl:((sA n i).take i).length=i:=by rw[br,pK (Nat.le_of_lt hi)];omega
  rcases jn q i with hq | rfl | hq
  ·rw[cn,aq (by omega),ik,bf hq,uD hq,uD (by omega)]
  ·rw[cn,bp (by omega),hl,jc,uD (by omega)];rfl
  ·have e1:(sA n (i+1))[q]?=if q<n then some .aF else none:=by
    unfold sA
    rw[bp (by simp;omega),bg,l6,List.getElem?_replicate]
    by_cases g:q<n
    ·rw[bf (by omega),bf g]
    ·rw[az (by omega),az g]
   rw[e1,cn,bp (by omega),hl,bp (by simp;omega),dz,ji]
   unfold sA
   rw[bp (by simp;omega),bg,l6,List.getElem?_replicate]
   by_cases g:q<n
   ·rw[bf (by omega),bf g]
   ·rw[az (by omega),az g]
 rw[show V.cells (.sl (i+1) 0 n none)=[.sl (i+1) 0 n none] from rfl,e]
 unfold p_
 rw[dy,jq,List.range_succ,eu]
 rfl
theorem K9 {n:Nat}{c:Nat->Nat->Bool}{i:Nat}(hi:i<n):(FZ n c)[i]?=some ((List.range n).map (c i)):=by simp[FZ,hi]
theorem RP {n:Nat}{c:Nat->Nat->Bool}:(FZ n c).length=n:=by simp[FZ]
theorem Ry {n:Nat}{g:Nat->Bool}{k:Nat}(hk:k<n):((List.range n).map g)[k]?=some (g k):=by simp[hk]
theorem OA:∀l:List V,Ax.rows 1 l.length l=l.map λv=>[v]
 | []=>rfl
 |x::l=>by
  show ((x::l).take 1)::Ax.rows 1 l.length ((x::l).drop 1)=_
  rw[show (x::l).drop 1=l from rfl,OA l];rfl
theorem K_ {α β:Type}{f:α->Option β}:∀{l:List α}{m:List β},l.length=m.length->(∀(i:Nat) (a:α) (b:β),l[i]?=some a->m[i]?=some b->f a=some b)->aW f l=some m
 | [],[],_,_=>rfl
 |a::l,b::m,hl,h=>by
  rw[aW,h 0 a b rfl rfl,K_ (l:=l) (m:=m) (by simpa using hl) λi x y hx hy=>h (i+1) x y hx hy]
 | [],_::_,hl,_=>by simp at hl
 |_::_,[],hl,_=>by simp at hl
theorem G3 (h:bK E) {ex:Bool}{n:Nat}{c:Nat->Nat->Bool}:∃v,cG (p_ ex n n c) E.ty false (.sl 0 0 n none)=some v/\jG pZ v (FZ n c):=by
 let rv:Nat->V:=λi=>.bS false ((lW n (c i)).map λv=>[v]) (ex&&decide (0<1)&&(0+n*1==n))
 have hrow:∀i,i<n->∀m,bG (p_ ex n n c) E.ty false (m+2) (.sl (i+1) 0 n none)=some (rv i):=λi hi m=>by
  have hm:aW (λv=>match bG (p_ ex n n c) E.ty false (m+1) v with
    |some v=>if bT false v then some v else no "snap: borrowed"
    |none=>none) (lW n (c i))=some (lW n (c i)):=by
   refine gH λx hx=>?_
   obtain⟨k,_,rfl⟩:=cm.1 hx
   rfl
  rw[bG]
  simp only[Dd hi,h.tR]
  rw[bf (by rw[l_];omega),fg,ah (by rw[l_];omega)]
  refine (au (λo=>match o with
   |some l=>some (V.bS false (Ax.rows 1 n l) (ex&&decide (0<1)&&(0+n*1==(lW n (c i)).length)))
   |none=>none) hm).trans ?_
  show some (V.bS false (Ax.rows 1 n (lW n (c i))) (ex&&decide (0<1)&&(0+n*1==(lW n (c i)).length)))=_
  have:Ax.rows 1 n (lW n (c i))=(lW n (c i)).map λv=>[v]:=by
   have:=OA (lW n (c i));rwa [l_]at this
  rw[this,l_]
 have hout:bG (p_ ex n n c) E.ty false 12 (.sl 0 0 n none)=some (.bS false (((List.range n).map rv).map λv=>[v]) (true&&decide (0<1)&&(0+n*1==n))):=by
  have hm:aW (λv=>match bG (p_ ex n n c) E.ty false 11 v with
    |some v=>if bT false v then some v else no "snap: borrowed"
    |none=>none) (sA n n)=some ((List.range n).map rv):=by
   refine K_ (by rw[pK (ae n)];simp) λi a b ha hb=>?_
   have hi:i<n:=by
    have:=(AI.1 ha).1
    rwa [pK (ae n)]at this
   rw[uD hi]at ha
   cases ha
   have hb:some (rv i)=some b:=by rw[<- hb];simp[hi]
   cases hb
   rw[hrow i hi 9]
   rfl
  rw[bG]
  simp only[ZU,h.oB]
  rw[bf (by rw[pK (ae n)];omega),fg,ah (by rw[pK (ae n)];omega)]
  refine (au (λo=>match o with
   |some l=>some (V.bS false (Ax.rows 1 n l) (true&&decide (0<1)&&(0+n*1==(sA n n).length)))
   |none=>none) hm).trans ?_
  show some (V.bS false (Ax.rows 1 n ((List.range n).map rv)) (true&&decide (0<1)&&(0+n*1==(sA n n).length)))=_
  have:Ax.rows 1 n ((List.range n).map rv)=((List.range n).map rv).map λv=>[v]:=by
   have:=OA ((List.range n).map rv);rwa [show ((List.range n).map rv).length=n by simp]at this
  rw[this,pK (ae n)]
 refine⟨.bS false (((List.range n).map rv).map λv=>[v]) (true&&decide (0<1)&&(0+n*1==n)),?_,.inr ⟨((List.range n).map rv).map λv=>[v],true&&decide (0<1)&&(0+n*1==n),rfl,?_⟩⟩
 ·show (match bG (p_ ex n n c) E.ty false 12 (.sl 0 0 n none) with
   |some v=>if bT false v then some v else no "snap: borrowed"
   |none=>none)=_
  rw[hout]
  rfl
 ·unfold FZ
  rw[ku]
  refine dZ.map (P:=pZ.P) (f:=(λv=>[v]) ∘ rv) (g:=λi=>(List.range n).map (c i)) (λi=>⟨rv i,rfl,.inr ⟨false,(lW n (c i)).map λv=>[v],ex&&decide (0<1)&&(0+n*1==n),rfl,?_⟩⟩) _
  unfold lW
  rw[ku]
  exact dZ.map (P:=fN.P) (f:=(λv=>[v]) ∘ λk=>V.bool (c i k)) (g:=c i) (λk=>rfl) _
end
end
end Go.Proofs.YtmhchflckonklaaGreatDoor
end
