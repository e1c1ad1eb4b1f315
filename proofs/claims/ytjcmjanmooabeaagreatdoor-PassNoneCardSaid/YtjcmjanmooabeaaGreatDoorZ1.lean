/- Part 1 of the proof. -/
import Derived.Test.YtjcmjanmooabeaaGreatDoorZ0
import Derived.Laws.Strings
import Derived.Laws.Strings2
import Derived.Laws.Slices
import Derived.Lib.Builder
import Derived.Lib.UnsafeStr
import Derived.Laws.BytesString
set_option maxHeartbeats 8000000
set_option linter.unusedVariables false
set_option linter.unusedSimpArgs false
section
namespace Go.Ax
open Go
section
theorem wrap_in (k:IntKind) (n:Int)(h1:lo k<=n)(h2:n<=hi k):k.wrap n=n:=by
 cases k <;> simp only[lo,hi]at h1 h2 <;> simp[IntKind.wrap,IntKind.signed,IntKind.bits] <;> omega
theorem wr_eq (k:IntKind) (n:Int):wr k n=k.wrap n:=by
 rw[wr_old]
 split
 ·rename_i h
  simp only[Bool.and_eq_true,decide_eq_true_eq]at h
  rw[wrap_in k n h.1 h.2]
 ·rfl
theorem bytes_len (s:ByteArray):(bytes s).length=s.size:=by simp[bytes]
theorem bytes_append (a b:ByteArray):bytes (a++b)=bytes a++bytes b:=by simp[bytes]
theorem map_toNat_inj {a b:List UInt8}(h:a.map UInt8.toNat=b.map UInt8.toNat):a=b:=by
 induction a generalizing b with
 |nil=>cases b <;> simp_all
 |cons x a ih=>cases b with
  |nil=>simp at h
  |cons y b=>simp only[List.map_cons,List.cons.injEq]at h;rw[UInt8.toNat_inj.1 h.1,ih h.2]
theorem bytes_inj {a b:ByteArray}(h:bytes a=bytes b):a=b:=by
 have:=map_toNat_inj h
 cases a;cases b
 simp only[Array.toList_inj]at this
 simp[this]
theorem seq_eq (a b:List Nat):seq a b=decide (a=b):=by
 induction a generalizing b with
 |nil=>cases b <;> simp[seq]
 |cons x a ih=>cases b with
  |nil=>simp[seq]
  |cons y b=>simp[seq_cons,ih]
theorem seq_bytes (a b:ByteArray):seq (bytes a) (bytes b)=(a.toList==b.toList):=by
 rw[seq_eq,ByteArray.toList_eq,ByteArray.toList_eq]
 by_cases h:a=b
 ·subst h;simp
 ·have:¬ bytes a=bytes b:=λe=>h (bytes_inj e)
  have h2:¬ a.data=b.data:=λe=>h (by cases a;cases b;simp_all)
  simp[this,h2]
theorem slt_bytes (a b:List UInt8):slt (a.map UInt8.toNat) (b.map UInt8.toNat)=Op.bytesLess a b:=by
 induction a generalizing b with
 |nil=>cases b <;> rfl
 |cons x a ih=>cases b with
  |nil=>rfl
  |cons y b=>
   simp only[List.map_cons,slt_cons,Op.bytesLess,ih]
   by_cases h:x=y
   ·subst h;simp
   ·have:¬ x.toNat=y.toNat:=λe=>h (UInt8.toNat_inj.1 e)
    simp[h,this,UInt8.lt_iff_toNat_lt]
theorem slt_eq (a b:ByteArray):slt (bytes a) (bytes b)=Op.bytesLess a.toList b.toList:=by
 rw[ByteArray.toList_eq,ByteArray.toList_eq];exact slt_bytes _ _
section
variable {P:Program}{E:Env}{c:Cx}
theorem arith_sound {op:BinOp}{k:IntKind}{a b:Int}{t:Nat}{v:V}(h:arith op k a b=some v) (w:World) :
  ∃x,(binOp op t (.int k a) (.int k b)).run P w=.ok x w/\VR c v x:=by
 cases op with
 |add=>simp only[arith_old]at h;injection h with h;subst h;exact⟨_,by simp[binOp,Op.intArith,wr_eq],.inl (.int _ _)⟩
 |sub=>simp only[arith_old]at h;injection h with h;subst h;exact⟨_,by simp[binOp,Op.intArith,wr_eq],.inl (.int _ _)⟩
 |mul=>simp only[arith_old]at h;injection h with h;subst h;exact⟨_,by simp[binOp,Op.intArith,wr_eq],.inl (.int _ _)⟩
 |quo=>
  simp only[arith_old]at h
  split at h
  ·cases h
  ·rename_i hb
   injection h with h;subst h
   exact⟨_,by simp[binOp,Op.intDiv,hb,wr_eq],.inl (.int _ _)⟩
 |rem=>
  simp only[arith_old]at h
  split at h
  ·cases h
  ·rename_i hb
   injection h with h;subst h
   exact⟨_,by simp[binOp,Op.intDiv,hb,wr_eq],.inl (.int _ _)⟩
 |and=>simp only[arith_old]at h;injection h with h;subst h;exact⟨.int k _,by simp only[binOp,ne_eq,not_true,if_false];rfl,.inl (.int _ _)⟩
 |or=>simp only[arith_old]at h;injection h with h;subst h;exact⟨.int k _,by simp only[binOp,ne_eq,not_true,if_false];rfl,.inl (.int _ _)⟩
 |xor=>simp only[arith_old]at h;injection h with h;subst h;exact⟨.int k _,by simp only[binOp,ne_eq,not_true,if_false];rfl,.inl (.int _ _)⟩
 |andNot=>simp only[arith_old]at h;injection h with h;subst h;exact⟨.int k _,by simp only[binOp,ne_eq,not_true,if_false];rfl,.inl (.int _ _)⟩
 |eql=>simp only[arith_old]at h;injection h with h;subst h;exact⟨.bool (decide (a=b)),by simp only[binOp,ne_eq,not_true,if_false,Op.intCmp];rfl,.inl (.bool _)⟩
 |neq=>simp only[arith_old]at h;injection h with h;subst h;exact⟨.bool (!decide (a=b)),by simp only[binOp,ne_eq,not_true,if_false,Op.intCmp];rfl,.inl (.bool _)⟩
 |lss=>simp only[arith_old]at h;injection h with h;subst h;exact⟨.bool (decide (a<b)),by simp only[binOp,ne_eq,not_true,if_false,Op.intCmp];rfl,.inl (.bool _)⟩
 |leq=>simp only[arith_old]at h;injection h with h;subst h;exact⟨.bool (decide (a<=b)),by simp only[binOp,ne_eq,not_true,if_false,Op.intCmp];rfl,.inl (.bool _)⟩
 |gtr=>simp only[arith_old]at h;injection h with h;subst h;exact⟨.bool (decide (b<a)),by simp only[binOp,ne_eq,not_true,if_false,Op.intCmp];rfl,.inl (.bool _)⟩
 |geq=>simp only[arith_old]at h;injection h with h;subst h;exact⟨.bool (decide (b<=a)),by simp only[binOp,ne_eq,not_true,if_false,Op.intCmp];rfl,.inl (.bool _)⟩
 |shl=>simp only[arith_old]at h;cases h
 |shr=>simp only[arith_old]at h;cases h
theorem strOp_sound {op:BinOp}{a b:ByteArray}{t:Nat}{v:V}(h:strOp op (bytes a) (bytes b)=some v) (w:World) :
  ∃x,(binOp op t (.string a) (.string b)).run P w=.ok x w/\VR c v x:=by
 cases op <;> simp only[strOp]at h <;> first
  |(cases h;done)
  |(injection h with h;subst h;refine⟨_,by simp only[binOp,Op.stringOp];rfl,?_⟩;simp only[seq_bytes,slt_eq];exact .inl (.bool _))
  |skip
 split at h
 ·rename_i hle
  injection h with h;subst h
  simp only[decide_eq_true_eq,bytes_len]at hle
  refine⟨.string (a++b),?_,by rw[<- bytes_append];exact .inl (.str _)⟩
  simp only[binOp,Op.stringOp]
  rw[if_neg (by simp;omega)]
  rfl
 ·cases h
theorem shift_sound {op:BinOp}{k k':IntKind}{a b:Int}{t:Nat}{v:V}(ho:op=.shl\/op=.shr)(h:shift op k a b=some v) (w:World) :
  ∃x,(binOp op t (.int k a) (.int k' b)).run P w=.ok x w/\VR c v x:=by
 unfold shift at h
 split at h
 ·cases h
 ·rename_i hb
  rcases ho with rfl | rfl
  ·simp only at h;injection h with h;subst h
   exact⟨_,by simp[binOp,Op.shift,hb],.inl (.int _ _)⟩
  ·simp only at h;injection h with h;subst h
   exact⟨_,by simp[binOp,Op.shift,hb],.inl (.int _ _)⟩
theorem eqs_sc:∀{sh:List Kd}{as bs:List V}{b:Bool}{xs ys:List Value},eqs sh as bs=some b->VRs c as xs->VRs c bs ys->Sc sh as xs/\Sc sh bs ys:=by
 intro sh as bs
 fun_induction eqs sh as bs with
 |case1=>intro b xs ys h ha hb;cases ha;cases hb;exact⟨.nil,.nil⟩
 |case2 sh x a y b' q hq ih=>
  intro b xs ys h ha hb
  cases ha with | cons _ x' _ xs hx hxs=>
  cases hb with | cons _ y' _ ys hy hys=>
  obtain⟨h1,h2⟩:=ih hq hxs hys
  rw[hx.bool_inv,hy.bool_inv]
  exact⟨.bool _ _ _ _ h1,.bool _ _ _ _ h2⟩
 |case4 k sh k1 x a k2 y b' hk q hq ih=>
  intro b xs ys h ha hb
  obtain⟨rfl,rfl⟩:=hk
  cases ha with | cons _ x' _ xs hx hxs=>
  cases hb with | cons _ y' _ ys hy hys=>
  obtain⟨h1,h2⟩:=ih hq hxs hys
  rw[hx.int_inv,hy.int_inv]
  exact⟨.int _ _ _ _ _ h1,.int _ _ _ _ _ h2⟩
 |case7 sh x a y b' q hq ih=>
  intro b xs ys h ha hb
  cases ha with | cons _ x' _ xs hx hxs=>
  cases hb with | cons _ y' _ ys hy hys=>
  obtain⟨h1,h2⟩:=ih hq hxs hys
  obtain⟨s,rfl,rfl⟩:=hx.str_inv
  obtain⟨s',rfl,rfl⟩:=hy.str_inv
  exact⟨.str _ _ _ _ h1,.str _ _ _ _ h2⟩
 |_=>intro b xs ys h;cases h
theorem run_equal {t:Nat}{d:TypeDesc} (_hd:P.underlying t=some d) (w:World) {x y:Value}{b:Bool}(h:∀n,(Op.equalIn (n+1) t x y).run P w=.ok b w):(Op.equal t x y).run P w=.ok b w:=h 9999
theorem eqV_sound (he:EnvOk P E) {t:Nat}{cst:Bool}{v u:V}{x y:Value}{b:Bool}(h:eqV E t cst v u=some b)(hv:VR c v x)(hu:VR c u y) {op:BinOp}{ox oy:Operand}
  (hc:cst=true->(∃z,ox=.const z)\/∃z,oy=.const z) :
  (eqGuard op t ox oy x y).run P c.w=.ok () c.w/\(Op.equal t x y).run P c.w=.ok b c.w:=by
 unfold eqV at h
 split at h
 ·cases h
 ·rename_i i hi
  obtain⟨d,hd,hkd⟩:=(he.ty t i hi).kd
  have plain:∀{x y:Value},(∀m:Unit,True)->(∀n,(Op.equalIn (n+1) t x y).run P c.w=.ok b c.w)->(Op.equal t x y).run P c.w=.ok b c.w:=λ_ h=>h 9999
  split at h <;> rename_i hk <;> (try rw[hk]at hkd) <;> (try simp only[KdR]at hkd) <;> (try subst hkd)
  ·
   injection h with h;subst h
   rw[hv.bool_inv,hu.bool_inv]
   exact⟨by cases op <;> rfl,run_equal hd _ λn=>by simp[Op.equalIn,run_underlying hd]⟩
  ·injection h with h;subst h
   rw[hv.nilp_inv,hu.nilp_inv]
   exact⟨by cases op <;> rfl,run_equal hd _ λn=>by simp[Op.equalIn,run_underlying hd]⟩
  ·injection h with h;subst h
   obtain⟨rfl,_⟩:=hu.ref_inv
   rw[hv.nilp_inv]
   exact⟨by cases op <;> rfl,run_equal hd _ λn=>by simp[Op.equalIn,run_underlying hd]⟩
  ·injection h with h;subst h
   obtain⟨_,_,rfl,_⟩:=hu.ipt_inv
   rw[hv.nilp_inv]
   exact⟨by cases op <;> rfl,run_equal hd _ λn=>by simp[Op.equalIn,run_underlying hd]⟩
  ·injection h with h;subst h
   obtain⟨rfl,_⟩:=hv.ref_inv
   rw[hu.nilp_inv]
   exact⟨by cases op <;> rfl,run_equal hd _ λn=>by simp[Op.equalIn,run_underlying hd]⟩
  ·injection h with h;subst h
   obtain⟨_,_,rfl,_⟩:=hv.ipt_inv
   rw[hu.nilp_inv]
   exact⟨by cases op <;> rfl,run_equal hd _ λn=>by simp[Op.equalIn,run_underlying hd]⟩
  ·
   rename_i e b1 o1 b2 o2
   split at h
   ·rename_i ei hei
    split at h
    ·rename_i hbb
     obtain⟨rfl,hz⟩:=hbb
     injection h with h;subst h
     obtain⟨rfl,_⟩:=hv.ref_inv
     obtain⟨rfl,_⟩:=hu.ref_inv
     refine⟨by cases op <;> rfl,run_equal hd _ λn=>?_⟩
     simp only[Op.equalIn,Sem.run_bind,run_underlying hd,Result.andThen_ok,(he.ty e ei hei).size,Sem.run_ite,ne_eq,hz,not_false_eq_true,if_true,sameAddr,beq_self_eq_true]
     simp only[Sem.run_pure,Result.ok.injEq,and_true]
     by_cases ho:o1=o2 <;> simp[ho]
    ·cases h
   ·cases h
  ·injection h with h;subst h
   rw[hv.nils_inv,hu.nils_inv]
   exact⟨by cases op <;> rfl,run_equal hd _ λn=>by simp[Op.equalIn,run_underlying hd]⟩
  ·injection h with h;subst h
   obtain⟨_,_,_,_,_,rfl,_⟩:=hu.isl_inv
   rw[hv.nils_inv]
   exact⟨by cases op <;> rfl,run_equal hd _ λn=>by simp[Op.equalIn,run_underlying hd]⟩
  ·injection h with h;subst h
   obtain⟨_,rfl,_⟩:=hu.sl_inv
   rw[hv.nils_inv]
   exact⟨by cases op <;> rfl,run_equal hd _ λn=>by simp[Op.equalIn,run_underlying hd]⟩
  ·injection h with h;subst h
   obtain⟨_,_,_,_,_,rfl,_⟩:=hv.isl_inv
   rw[hu.nils_inv]
   exact⟨by cases op <;> rfl,run_equal hd _ λn=>by simp[Op.equalIn,run_underlying hd]⟩
  ·injection h with h;subst h
   obtain⟨_,rfl,_⟩:=hv.sl_inv
   rw[hu.nils_inv]
   exact⟨by cases op <;> rfl,run_equal hd _ λn=>by simp[Op.equalIn,run_underlying hd]⟩
  ·injection h with h;subst h
   rw[hv.nilm_inv,hu.nilm_inv]
   exact⟨by cases op <;> rfl,run_equal hd _ λn=>by simp[Op.equalIn,run_underlying hd]⟩
  ·injection h with h;subst h
   obtain⟨_,_,_,_,rfl,_⟩:=hu.imp_inv
   rw[hv.nilm_inv]
   exact⟨by cases op <;> rfl,run_equal hd _ λn=>by simp[Op.equalIn,run_underlying hd]⟩
  ·injection h with h;subst h
   obtain⟨rfl,_⟩:=hu.mp_inv
   rw[hv.nilm_inv]
   exact⟨by cases op <;> rfl,run_equal hd _ λn=>by simp[Op.equalIn,run_underlying hd]⟩
  ·injection h with h;subst h
   obtain⟨_,_,_,_,rfl,_⟩:=hv.imp_inv
   rw[hu.nilm_inv]
   exact⟨by cases op <;> rfl,run_equal hd _ λn=>by simp[Op.equalIn,run_underlying hd]⟩
  ·injection h with h;subst h
   obtain⟨rfl,_⟩:=hv.mp_inv
   rw[hu.nilm_inv]
   exact⟨by cases op <;> rfl,run_equal hd _ λn=>by simp[Op.equalIn,run_underlying hd]⟩
  ·injection h with h;subst h
   obtain⟨_,_,_,rfl⟩:=hkd
   rw[hv.nilf_inv,hu.nilf_inv]
   exact⟨by cases op <;> rfl,run_equal hd _ λn=>by simp[Op.equalIn,run_underlying hd]⟩
  ·injection h with h;subst h
   obtain⟨_,_,_,rfl⟩:=hkd
   obtain⟨_,_,rfl,_⟩:=hu.fn_inv
   rw[hv.nilf_inv]
   exact⟨by cases op <;> rfl,run_equal hd _ λn=>by simp[Op.equalIn,run_underlying hd]⟩
  ·injection h with h;subst h
   obtain⟨_,_,_,rfl⟩:=hkd
   obtain⟨_,_,rfl,_⟩:=hv.fn_inv
   rw[hu.nilf_inv]
   exact⟨by cases op <;> rfl,run_equal hd _ λn=>by simp[Op.equalIn,run_underlying hd]⟩
  ·split at h
   ·rename_i hcs
    injection h with h;subst h
    obtain⟨_,rfl⟩:=hkd
    rw[hv.nili_inv,hu.nili_inv]
    refine⟨?_,run_equal hd _ λn=>by simp[Op.equalIn,run_underlying hd]⟩
    rcases hc hcs with⟨z,rfl⟩ | ⟨z,rfl⟩
    ·rw[eqGuard_nil_constL];rfl
    ·rw[eqGuard_nil_constR];rfl
   ·cases h
  ·injection h with h;subst h
   obtain⟨_,rfl⟩:=hkd
   obtain⟨_,rfl,_⟩:=hu.ifc_inv
   rw[hv.nili_inv]
   exact⟨by rw[eqGuard_nil_iface];rfl,run_equal hd _ λn=>by simp[Op.equalIn,run_underlying hd]⟩
  ·injection h with h;subst h
   obtain⟨_,rfl⟩:=hkd
   obtain⟨_,rfl,_⟩:=hv.ifc_inv
   rw[hu.nili_inv]
   exact⟨by rw[eqGuard_at_iface];rfl,run_equal hd _ λn=>by simp[Op.equalIn,run_underlying hd]⟩
  ·split at h
   ·rename_i sh hsh
    obtain⟨xs,rfl,hxs⟩:=hv.agg_inv
    obtain⟨ys,rfl,hys⟩:=hu.agg_inv
    obtain⟨s1,s2⟩:=eqs_sc h hxs hys
    have ho:=he.eqs t sh hsh
    exact⟨ho.guard _ _ _ _ _ _ _ _ s1 s2,ho.eq _ _ _ _ _ _ h s1 s2⟩
   ·cases h
  ·cases h
def notNum:Value->Bool
 | .int .. | .float .. | .complex .. | .string _=>false
 |_=>true
theorem binOp_eql' {t:Nat}{x y:Value}(h:notNum x=true):binOp .eql t x y=(do pure (.bool (<- Op.equal t x y)):Sem Value):=by
 cases x <;> first | (cases h;done) | rfl
theorem binOp_neq' {t:Nat}{x y:Value}(h:notNum x=true):binOp .neq t x y=(do pure (.bool (!(<- Op.equal t x y))):Sem Value):=by
 cases x <;> first | (cases h;done) | rfl
theorem VR.notNum {v:V}{x:Value}(h:VR c v x)(h1:∀k n,v≠.int k n)(h2:∀s,v≠.str s):Ax.notNum x=true:=by
 cases h with
 |inl h=>cases h <;> first | rfl | exact absurd rfl (h1 _ _) | exact absurd rfl (h2 _)
 |_=>rfl
theorem eqV_num {t:Nat}{cst:Bool}{v u:V}{b:Bool}(h:eqV E t cst v u=some b):(∀k n,v≠.int k n)/\(∀s,v≠.str s):=by
 constructor
 ·intro k n e
  subst e
  unfold eqV at h
  split at h
  ·cases h
  ·split at h <;> first | (cases h;done) | simp_all
 ·intro s e
  subst e
  unfold eqV at h
  split at h
  ·cases h
  ·split at h <;> first | (cases h;done) | simp_all
theorem bin_sound (he:EnvOk P E) {op:BinOp}{t:Nat}{ox oy:Operand}{v u r:V}{x y:Value}(h:bin E op t (isConst ox||isConst oy) v u=some r)(hv:VR c v x)(hu:VR c u y) :
  ∃z,(do eqGuard op t ox oy x y;binOp op t x y:Sem Value).run P c.w=.ok z c.w/\VR c r z:=by
 have hcst:(isConst ox||isConst oy)=true->(∃z,ox=.const z)\/∃z,oy=.const z:=by
  intro h
  simp only[Bool.or_eq_true]at h
  rcases h with h | h
  ·cases ox <;> first | (cases h;done) | exact .inl ⟨_,rfl⟩
  ·cases oy <;> first | (cases h;done) | exact .inr ⟨_,rfl⟩
 unfold bin at h
 split at h
 ·rename_i k a k' b
  rw[hv.int_inv,hu.int_inv]
  simp only[Sem.run_bind,eqGuard_at_int,Sem.run_pure,Result.andThen_ok]
  split at h
  ·exact shift_sound (.inl rfl) h c.w
  ·exact shift_sound (.inr rfl) h c.w
  ·split at h
   ·rename_i hk;subst hk
    exact arith_sound h c.w
   ·cases h
 ·rename_i a b
  obtain⟨s,rfl,rfl⟩:=hv.str_inv
  obtain⟨s',rfl,rfl⟩:=hu.str_inv
  simp only[Sem.run_bind,eqGuard_at_string,Sem.run_pure,Result.andThen_ok]
  exact strOp_sound h c.w
 ·rename_i hni hns
  have key:∀b,eqV E t (isConst ox||isConst oy) v u=some b->(eqGuard op t ox oy x y).run P c.w=.ok () c.w/\(Op.equal t x y).run P c.w=.ok b c.w:=λb hb=>eqV_sound he hb hv hu hcst
  split at h
  ·cases hq:eqV E t (isConst ox||isConst oy) v u with
   |none=>rw[hq]at h;cases h
   |some b=>
    rw[hq]at h;injection h with h;subst h
    obtain⟨g1,g2⟩:=key b hq
    refine⟨.bool b,?_,.inl (.bool _)⟩
    have hn:=hv.notNum (eqV_num hq).1 (eqV_num hq).2
    simp only[Sem.run_bind,g1,Result.andThen_ok,binOp_eql' hn,g2,Sem.run_pure]
  ·cases hq:eqV E t (isConst ox||isConst oy) v u with
   |none=>rw[hq]at h;cases h
   |some b=>
    rw[hq]at h;injection h with h;subst h
    obtain⟨g1,g2⟩:=key b hq
    refine⟨.bool (!b),?_,.inl (.bool _)⟩
    have hn:=hv.notNum (eqV_num hq).1 (eqV_num hq).2
    simp only[Sem.run_bind,g1,Result.andThen_ok,binOp_neq' hn,g2,Sem.run_pure]
  ·cases h
end
end
section
theorem RowsAt.flat {w:World}{I:Bool->Nat->Prop}{sz blk:Nat}:∀{xs:List (List V)}{off:Nat},RowsAt w I sz xs blk off->CellsAt w I xs.flatten blk off/\xs.flatten.length=xs.length*sz
 | [],off,_=>⟨.nil,by simp⟩
 |r::xs,off,h=>by
  cases h with | cons _ _ hl hc hr=>
  obtain⟨h1,h2⟩:=hr.flat
  refine⟨CellsAt.of_get λj v hj=>?_,by simp[h2,hl,Nat.succ_mul,Nat.add_comm]⟩
  simp only[List.flatten_cons]at hj
  by_cases hlt:j<r.length
  ·exact hc.get j v (by rwa [List.getElem?_append_left hlt]at hj)
  ·rw[List.getElem?_append_right (by omega)]at hj
   obtain⟨x,hx,hv⟩:=h1.get _ v hj
   exact⟨x,by rw[show off+j=off+sz+(j-r.length) by omega];exact hx,hv⟩
theorem RowsAt.drop {w:World}{I:Bool->Nat->Prop}{sz blk:Nat}:∀{xs:List (List V)}{off:Nat},RowsAt w I sz xs blk off->∀l,RowsAt w I sz (xs.drop l) blk (off+l*sz)
 | [],off,_,l=>by simp;exact .nil
 |r::xs,off,h,0=>by simpa using h
 |r::xs,off,h,l+1=>by
  cases h with | cons _ _ hl hc hr=>
  have:=hr.drop l
  rw[show off+sz+l*sz=off+(l+1)*sz by rw[Nat.succ_mul];omega]at this
  simpa using this
theorem RowsAt.take {w:World}{I:Bool->Nat->Prop}{sz blk:Nat}:∀{xs:List (List V)}{off:Nat},RowsAt w I sz xs blk off->∀l,RowsAt w I sz (xs.take l) blk off
 | [],off,_,l=>by simp;exact .nil
 |r::xs,off,h,0=>by simp;exact .nil
 |r::xs,off,h,l+1=>by
  cases h with | cons _ _ hl hc hr=>exact .cons r _ hl hc (hr.take l)
theorem RowsAt.get {w:World}{I:Bool->Nat->Prop}{sz blk:Nat}:∀{xs:List (List V)}{off:Nat},RowsAt w I sz xs blk off->∀i r,xs[i]?=some r->r.length=sz/\CellsAt w I r blk (off+i*sz)
 | [],off,_,i,r,hr=>by simp at hr
 |q::xs,off,h,0,r,hr=>by
  cases h with | cons _ _ hl hc hrr=>simp at hr;subst hr;exact⟨hl,by simpa using hc⟩
 |q::xs,off,h,i+1,r,hr=>by
  cases h with | cons _ _ hl hc hrr=>
  obtain⟨h1,h2⟩:=hrr.get i r (by simpa using hr)
  exact⟨h1,by rw[show off+(i+1)*sz=off+sz+i*sz by rw[Nat.succ_mul];omega];exact h2⟩
theorem RowsAt.szOk {w:World}{I:Bool->Nat->Prop}{sz size blk off:Nat}{xs:List (List V)}(h:RowsAt w I sz xs blk off)(hk:szOk size xs=true):xs=[]\/sz=size:=by
 cases h with
 |nil=>exact .inl rfl
 |cons r xs hl hc hr=>exact .inr (by simp only[Ax.szOk,beq_iff_eq]at hk;omega)
theorem RowsAt.resize {w:World}{I:Bool->Nat->Prop}{sz size blk off:Nat}{xs:List (List V)}(h:RowsAt w I sz xs blk off)(hk:Ax.szOk size xs=true):RowsAt w I size xs blk off:=by
 rcases h.szOk hk with rfl | rfl
 ·exact .nil
 ·exact h
section
variable {P:Program}{E:Env}{c:Cx}
theorem u8_vrs (s:List UInt8):VRs c (u8s (s.map UInt8.toNat)) (s.map λb=>.int .u8 b.toNat):=by
 induction s with
 |nil=>exact .nil
 |cons a s ih=>exact .cons _ _ _ _ (.inl (.int _ _)) ih
theorem elems_sound (hs:SR E c) {size:Nat}{v:V}{x:Value}{cs:List V}{n:Nat}(h:elems c.Z size v=some (cs,n))(hv:VR c v x) :
  ∃xs:List Value,VRs c cs xs/\xs.length=n*size/\(∀w',(∀k,k<c.w.heap.size->w'.heap[k]?=c.w.heap[k]?)->(Builtin.firstCells size n x).run P w'=.ok xs.toArray w')/\(∀w',(Builtin.lenOf x).run P w'=.ok n w')/\cs.all V.okCell=true:=by
 cases v <;> simp only[elems]at h <;> first | (cases h;done) | skip
 case str s=>
  split at h
  ·rename_i hsz
   subst hsz
   injection h with h;injection h with h1 h2;subst h1 h2
   obtain⟨b,rfl,rfl⟩:=hv.str_inv
   refine⟨b.data.toList.map λb=>.int .u8 b.toNat,u8_vrs _,by simp[bytes],λw' _=>?_,λw'=>by simp[Builtin.lenOf,bytes],by simp[u8s,List.all_map,Function.comp_def,V.okCell]⟩
   have e:b.extract 0 (bytes b).length=b:=by rw[bytes_len];exact ByteArray.extract_zero_size
   simp only[Builtin.firstCells,e,Sem.run_pure]
   congr 1
   apply Array.ext'
   simp
  ·cases h
 case nils=>
  injection h with h;injection h with h1 h2;subst h1 h2
  rw[hv.nils_inv]
  exact⟨[],.nil,by simp,λw' _=>rfl,λw'=>rfl,rfl⟩
 case isl g xs full=>
  split at h
  ·rename_i hk
   injection h with h;injection h with h1 h2;subst h1 h2
   obtain⟨blk,off,sp,cap,sz,rfl,hi,hc,hf,hr⟩:=hv.isl_inv
   rcases hi with⟨rfl,hi⟩ | ⟨rfl,rfl⟩
   case inr=>exact⟨[],.nil,by simp,(λw' _=>by unfold Builtin.firstCells;simp only[List.length_nil,Nat.zero_mul];exact run_loadCells_list w' _ [] λj v hj=>by cases hj),λw'=>rfl,rfl⟩
   obtain⟨hcells,hlen⟩:=(hr.resize hk).flat
   obtain⟨ys,hys,hcell⟩:=hcells.vals
   have hV:VRs c xs.flatten ys:=(hys.mono (sub_wider c g)).vrs
   have hl:=hV.len
   refine⟨ys,hV,by omega,λw' hw=>?_,λw'=>rfl,hys.okCells⟩
   simp only[Builtin.firstCells]
   exact run_loadCells_seg (by omega) λj y hj=>by
    rw[cell_of_heap (hw blk hi.1)];exact hcell j y hj
  ·cases h
 case sl b off len cap=>
  split at h
  ·rename_i t cs' ex hob
   split at h
   ·rename_i hle
    injection h with h;injection h with h1 h2;subst h1 h2
    obtain⟨cap',rfl,hb,hl,_⟩:=hv.sl_inv
    obtain⟨arr,g1,g2,g3,g4,g5,g6,g7⟩:=(hs.obj b _ hob).cells_inv
    have hV:=(g6.drop off).take (len*size)
    have e:((arr.toList.take cs'.length).drop off).take (len*size)=(arr.toList.drop off).take (len*size):=by
     rw[List.drop_take,List.take_take,Nat.min_eq_left (by omega)]
    rw[e]at hV
    refine⟨_,hV,by simp;omega,λw' hw=>?_,λw'=>rfl,by
     simp only[List.all_eq_true]at g7 ⊢
     exact λx hx=>g7 x (List.mem_of_mem_drop (List.mem_of_mem_take hx))⟩
    simp only[Builtin.firstCells]
    refine run_loadCells_seg (by simp;omega) λj y hj=>?_
    rw[cell_of_heap (hw _ (heap_lt g1)),cell_at g1]
    have hj':j<len*size:=by have:=(List.getElem?_eq_some_iff.1 hj).1;simp at this;omega
    simpa [List.getElem?_take,hj',List.getElem?_drop]using hj
   ·cases h
  ·cases h
theorem reps_len (n:Nat) (z:List V):(reps n z).length=n*z.length:=by
 induction n with
 |zero=>simp[reps]
 |succ n ih=>simp[reps,ih,Nat.succ_mul,Nat.add_comm]
def repsX (n:Nat) (z:List Value):List Value:=match n with
 |0=>[]
 |n+1=>z++repsX n z
theorem reps_vrs {z:List V}{zs:List Value}(h:VRs c z zs) (n:Nat):VRs c (reps n z) (repsX n zs):=by
 induction n with
 |zero=>exact .nil
 |succ n ih=>exact h.append ih
theorem range_mod (n:Nat) (z:List Value) (d:Value):(List.range (n*z.length)).map (λi=>z[i % z.length]?.getD d)=repsX n z:=by
 induction n with
 |zero=>simp[repsX]
 |succ n ih=>
  rw[Nat.succ_mul,Nat.add_comm,List.range_add,List.map_append,List.map_map,repsX]
  congr 1
  ·apply List.ext_getElem?
   intro i
   by_cases hi:i<z.length
   ·simp[hi,Nat.mod_eq_of_lt hi]
   ·simp[hi,List.getElem?_eq_none (Nat.le_of_not_lt hi)]
  ·rw[<- ih]
   apply List.map_congr_left
   intro i _
   simp[Function.comp]
theorem zeroCells_eq (z:Array Value) (n:Nat):(Builtin.zeroCells z n).toList=repsX n z.toList:=by
 have:=range_mod n z.toList default
 simp only[Builtin.zeroCells,Array.toList_map,Array.toList_range]
 rw[<- this]
 simp only[Array.length_toList]
 apply List.map_congr_left
 intro i hi
 simp[getElem!_def,Array.getElem?_toList,Option.getD]
 cases z[i % z.size]? <;> rfl
theorem roomy_spec {need bytes:Nat}(h:roomy need bytes=true) {old:Nat}(ho:old<need):Builtin.nextslicecap need old*bytes<=2 ^ 48/\need<=281474976710656:=by
 simp only[roomy,decide_eq_true_eq]at h
 have hn:Builtin.nextslicecap need old<=2*need+256:=by
  have grow:∀r c,c<=2*need+256->Builtin.growBy need r c<=2*need+256:=by
   intro r
   induction r with
   |zero=>intro c h;exact h
   |succ r ih=>
    intro c h
    unfold Builtin.growBy
    split
    ·exact h
    ·exact ih _ (by omega)
  unfold Builtin.nextslicecap
  split
  ·omega
  ·split
   ·omega
   ·exact grow 4 old (by omega)
 have h1:Builtin.nextslicecap need old*bytes<=(2*need+256)*(bytes+1):=Nat.mul_le_mul hn (by omega)
 have h2:need*1<=(2*need+256)*(bytes+1):=Nat.mul_le_mul (by omega) (by omega)
 exact⟨Nat.le_trans h1 (Nat.le_trans h (by decide)),Nat.le_trans (by rw[Nat.mul_one]at h2;exact h2) h⟩
theorem roomy0_spec {need bytes:Nat}(h:roomy0 need bytes=true)(ho:0<need):Builtin.nextslicecap need 0*bytes<=2 ^ 48/\need<=281474976710656:=by
 simp only[roomy0,decide_eq_true_eq]at h
 have hn:Builtin.nextslicecap need 0=need:=by
  unfold Builtin.nextslicecap
  rw[if_pos (by omega)]
 have h1:need*bytes<=need*(bytes+1):=Nat.mul_le_mul (Nat.le_refl _) (by omega)
 have h2:need*1<=need*(bytes+1):=Nat.mul_le_mul (Nat.le_refl _) (by omega)
 rw[hn]
 exact⟨Nat.le_trans h1 (Nat.le_trans h (by decide)),Nat.le_trans (by rw[Nat.mul_one]at h2;exact h2) h⟩
theorem new_row (hs:SR E c) {t:Nat}{i:Ty}(hi:E.ty t=some i) {cs:List V}{xs ys:List Value}(hv:VRs c cs xs)(hok:cs.all V.okCell=true) :
  ∃c',c'.w={ c.w with heap:=c.w.heap.push (.cells (xs++ys).toArray t (0,0)) }/\c'.Z=c.Z++[.cells t cs false]/\Ext c c'/\SR E c'/\c'.blk c.Z.length=c.w.heap.size/\c'.tot c.Z.length=xs.length+ys.length/\c'.esz c.Z.length=i.size:=by
 refine⟨c.alloc (.cells (xs++ys).toArray t (0,0)) (.cells t cs false) (xs.length+ys.length) i.size,rfl,rfl,Cx.alloc_ext hs _ _ _ _,Cx.alloc_sr hs _ _ _ _ ?_,by simp[Cx.alloc],by simp[Cx.alloc],by simp[Cx.alloc]⟩
 refine ObjR.cells_mk (arr:=(xs++ys).toArray) (xs:=xs) (ys:=ys) ?_ (by simp[Cx.alloc]) ⟨i,hi,by simp[Cx.alloc]⟩ (λh=>by cases h) (by simp) (VRs.mono (Cx.alloc_ext hs _ _ _ _) hv) hok
 show (c.w.heap.push _)[if c.Z.length=c.Z.length then _ else _]?=_
 simp
theorem notInt {k:Kd}(hne:∀i,k≠.int i) {d:TypeDesc}(h:KdR d k) (j:IntKind):d≠.int j:=by
 rintro rfl
 cases k <;> simp only[KdR]at h <;> first
  |(exact absurd rfl (hne _))
  |(cases h;done)
  |(obtain⟨_,_,_,h⟩:=h;cases h;done)
  |(obtain⟨_,h,_⟩:=h;cases h;done)
  |(obtain⟨_,h⟩:=h;cases h;done)
theorem run_append_new {st e : Nat} {i : Ty} (he : EnvOk P E) {si : Ty} (hsi : E.ty st = some si) (hk : si.kd = .sl e) (hi : E.ty e = some i) (ats : Array Nat) (ty : Nat) (hat : ats[0]? = some st)
    (hz : ∀ xt, ats[1]? = some xt -> ∃ xi, E.ty xt = some xi /\ (∀ k, xi.kd ≠ .int k)) {x y : Value} {base : Option Addr} {len cap n : Nat}
    {olds news : List Value} (hy : y = .slice base len cap)
    (hn : ∀ w', (Builtin.lenOf x).run P w' = .ok n w') (hcap : cap < len + n) (hr : Builtin.nextslicecap (len + n) cap * i.bytes <= 2 ^ 48 /\ len + n <= 281474976710656) (w : World)
    (hold : ∀ w', (∀ k, k < w.heap.size -> w'.heap[k]? = w.heap[k]?) -> (Builtin.firstCells i.size len y).run P w' = .ok olds.toArray w')
    (hnew : ∀ w', (∀ k, k < w.heap.size -> w'.heap[k]? = w.heap[k]?) -> (Builtin.firstCells i.size n x).run P w' = .ok news.toArray w') :
    ∃ (nc : Nat) (rest : List Value), len + n <= nc /\ rest.length = (nc - (len + n)) * i.size /\
      (Builtin.append_ ats ty #[y, x]).run P w = .ok (.slice (some ⟨w.heap.size, 0, none⟩) (len + n) nc)
        { w with heap := w.heap.push (.cells ((olds ++ news) ++ rest).toArray e (0, 0)), drawn := w.drawn + 1 } := by
  have ht := he.ty e i hi
  obtain ⟨d, hd, hkd⟩ := (he.ty st si hsi).kd
  rw [hk] at hkd
  simp only [KdR] at hkd
  subst hkd
  obtain ⟨z, hz0, hz1, hzs⟩ := ht.zero
  obtain ⟨inf, hinf, hsz, hby, _⟩ := ht.info
  obtain ⟨h1, h2⟩ := hr
  subst hy
  refine ⟨(Question.appendCap (len + n) cap e).cut (w.tape w.drawn (.appendCap (len + n) cap e)), repsX ((Question.appendCap (len + n) cap e).cut (w.tape w.drawn (.appendCap (len + n) cap e)) - (len + n)) z.cells.toList, ?_, ?_, ?_⟩
  · simp [Question.cut]
  · have : ∀ m, (repsX m z.cells.toList).length = m * i.size := by
      intro m
      induction m with
      | zero => simp [repsX]
      | succ m ih => simp [repsX, ih, hzs, Nat.succ_mul, Nat.add_comm]
    exact this _
  · have hnc : ¬ (len + n <= cap) := by omega
    have hmx : ¬ ((((len + n : Nat) : Int) > IntKind.i64.max) /\ (False \/ inf.bytes = 0)) := by
      rw [IntKind.max_i64]; omega
    have hbig : ¬ (Builtin.nextslicecap (len + n) cap * inf.bytes > 2 ^ 48) := by rw [hby]; omega
    have hfo : (Question.appendCap (len + n) cap e).forced = false := rfl
    unfold Builtin.append_
    have e0 : (#[Value.slice base len cap, x] : Array Value)[0]? = some (.slice base len cap) := rfl
    have e1 : (#[Value.slice base len cap, x] : Array Value)[1]? = some x := rfl
    rw [hat, e0, e1]
    cases hx : ats[1]? with
    | none =>
      simp only [Sem.run_bind, run_underlying hd, Result.andThen_ok, ht.size, Bool.false_eq_true, if_false, hn w, Sem.run_ite, hnc, Bool.not_false, if_true, run_typeInfo hinf, hmx, hbig, run_choose, run_askRoom, Sem.run_pure, hfo]
      simp only [hold { w with drawn := w.drawn + 1 } (fun _ _ => rfl), hnew { w with drawn := w.drawn + 1 } (fun _ _ => rfl), hz0, newRow, Sem.run_bind, run_newObj, Sem.run_pure, Result.andThen_ok, run_askRoom]
      congr 4
      apply Array.ext'
      simp [zeroCells_eq]
    | some xt =>
      obtain ⟨xi, hxi, hne⟩ := hz xt hx
      obtain ⟨d, hd', hkd'⟩ := (he.ty xt xi hxi).kd
      have hm := notInt hne hkd'
      cases d <;> first
        | exact absurd rfl (hm _)
        | (simp only [Sem.run_bind, run_underlying hd, run_underlying hd', Result.andThen_ok, ht.size, Bool.false_eq_true, if_false, hn w, Sem.run_ite, hnc, Bool.not_false, if_true, run_typeInfo hinf, hmx, hbig, run_choose, run_askRoom, Sem.run_pure, hfo]
           simp only [hold { w with drawn := w.drawn + 1 } (fun _ _ => rfl), hnew { w with drawn := w.drawn + 1 } (fun _ _ => rfl), hz0, newRow, Sem.run_bind, run_newObj, Sem.run_pure, Result.andThen_ok, run_askRoom]
           congr 4
           apply Array.ext'
           simp [zeroCells_eq])
theorem run_append_in {st e : Nat} {i : Ty} (he : EnvOk P E) {si : Ty} (hsi : E.ty st = some si) (hk : si.kd = .sl e) (hi : E.ty e = some i) (ats : Array Nat) (ty : Nat) (hat : ats[0]? = some st)
    (hz : ∀ xt, ats[1]? = some xt -> ∃ xi, E.ty xt = some xi /\ (∀ k, xi.kd ≠ .int k)) {x : Value} {base : Option Addr} {len cap n : Nat} {news : List Value}
    (hn : ∀ w', (Builtin.lenOf x).run P w' = .ok n w') (hcap : len + n <= cap) (w : World)
    (hnew : (Builtin.firstCells i.size n x).run P w = .ok news.toArray w) :
    (Builtin.append_ ats ty #[.slice base len cap, x]).run P w =
      (match base with
       | some a => ((storeCells (a.add (len * i.size)) news 0).run P w).andThen fun _ w => .ok (.slice base (len + n) cap) w
       | none => .ok (.slice base (len + n) cap) w) := by
  have ht := he.ty e i hi
  obtain ⟨d, hd, hkd⟩ := (he.ty st si hsi).kd
  rw [hk] at hkd
  simp only [KdR] at hkd
  subst hkd
  unfold Builtin.append_
  have e0 : (#[Value.slice base len cap, x] : Array Value)[0]? = some (.slice base len cap) := rfl
  have e1 : (#[Value.slice base len cap, x] : Array Value)[1]? = some x := rfl
  rw [hat, e0, e1]
  cases hx : ats[1]? with
  | none =>
    simp only [Sem.run_bind, run_underlying hd, Result.andThen_ok, ht.size, Bool.false_eq_true, if_false, hn w, Sem.run_ite, hcap, Bool.not_false, if_true, Sem.run_pure, hnew]
    cases base <;> simp
  | some xt =>
    obtain ⟨xi, hxi, hne⟩ := hz xt hx
    obtain ⟨d, hd', hkd'⟩ := (he.ty xt xi hxi).kd
    have hm := notInt hne hkd'
    cases d <;> first
      | exact absurd rfl (hm _)
      | (simp only [Sem.run_bind, run_underlying hd, run_underlying hd', Result.andThen_ok, ht.size, Bool.false_eq_true, if_false, hn w, Sem.run_ite, hcap, Bool.not_false, if_true, Sem.run_pure, hnew]
         cases base <;> simp)
theorem VRs.flat_len {vs:List V}{xs:List Value}(h:VRs c vs xs):xs.length=vs.length:=h.len.symm
theorem new_row_drew (hs:SR E c) {t:Nat}{i:Ty}(hi:E.ty t=some i) {cs:List V}{xs ys:List Value}(hv:VRs c cs xs)(hok:cs.all V.okCell=true) {len nc:Nat}(hl:xs.length=len*i.size)(hy:ys.length=(nc-len)*i.size)(hle:len<=nc) :
  ∃c',c'.w={ c.w with heap:=c.w.heap.push (.cells (xs++ys).toArray t (0,0)),drawn:=c.w.drawn+1 }/\c'.Z=c.Z++[.cells t cs false]/\Ext c c'/\SR E c' /\
   VR c' (.sl c.Z.length 0 len none) (.slice (some ⟨c.w.heap.size,0,none⟩) len nc):=by
 obtain⟨c',h1,h2,h3,h4,h5,h6,h7⟩:=new_row (Cx.drew_sr hs) hi (ys:=ys) (VRs.mono c.drew_ext hv) hok
 refine⟨c',h1,h2,c.drew_ext.trans h3,h4,?_⟩
 have h5':c'.blk c.Z.length=c.w.heap.size:=h5
 rw[<- h5']
 refine .sl _ _ _ _ _ (by rw[h2];simp[Cx.drew]) hle (λk hk=>by cases hk) (λ_=>?_)
 have h6':c'.tot c.Z.length=xs.length+ys.length:=h6
 have h7':c'.esz c.Z.length=i.size:=h7
 rw[h6',h7',hl,hy,<- Nat.add_mul,Nat.add_sub_cancel' hle,Nat.zero_add]
end
end
section
section
variable {P:Program}{E:Env}{c:Cx}
theorem ok_take {cs:List V}{a b:Nat}(h:cs.all V.okCell=true):((cs.drop a).take b).all V.okCell=true:=by
 simp only[List.all_eq_true]at h ⊢
 exact λx hx=>h x (List.mem_of_mem_drop (List.mem_of_mem_take hx))
theorem ok_append {a b:List V}(h:a.all V.okCell=true) (k:b.all V.okCell=true):(a++b).all V.okCell=true:=by simp_all
theorem append_sound (he:EnvOk P E)(hs:SR E c) {ats:Array Nat}{ty:Nat}{sv xv v:V}{s x:Value}{σ':Sg}(h:append E c.Z ats sv xv=some (v,σ'))(hsv:VR c sv s)(hxv:VR c xv x) :
  GoodV E c ((Builtin.append_ ats ty #[s,x]).run P c.w) v σ':=by
 unfold append at h
 split at h
 ·cases h
 rename_i st hat
 split at h
 case h_2=>cases h
 rename_i e _ _ _ hsi
 split at h
 ·cases h
 rename_i i hi
 split at h
 ·cases h
 rename_i hpl
 split at h
 ·cases h
 rename_i new n hel
 simp only[Bool.or_eq_true,not_or,Bool.not_eq_true,Bool.not_eq_false',beq_eq_false_iff_ne]at hpl
 have hz:∀xt,ats[1]?=some xt->∃xi,E.ty xt=some xi/\(∀k,xi.kd≠.int k):=by
  intro xt hx
  have:=hpl.1
  simp only[plainArg,hx]at this
  split at this
  ·rename_i xi hxi
   refine⟨xi,hxi,λk hk=>?_⟩
   rw[hk]at this;cases this
  ·cases this
 obtain⟨news,hnV,hnl,hfc,hlo,hok⟩:=elems_sound (P:=P) hs hel hxv
 split at h
 ·
  rw[hsv.nils_inv]
  split at h
  ·rename_i hn0
   subst hn0
   injection h with h;injection h with h1 h2;subst h1 h2
   refine GoodV.same hs (x:=.slice none 0 0) ?_ (.inl .nils)
   rw[run_append_in he hsi rfl hi ats ty hat hz hlo (Nat.le_refl _) c.w (hfc c.w λ_ _=>rfl)]
  ·rename_i hn0
   split at h
   ·rename_i hrm
    injection h with h;injection h with h1 h2;subst h1 h2
    obtain⟨nc,rest,g1,g2,g3⟩:=run_append_new he hsi rfl hi ats ty hat hz (y:=.slice none 0 0) rfl hlo (by omega) (by simpa using roomy0_spec hrm (Nat.pos_of_ne_zero hn0)) c.w (olds:=[]) (λ_ _=>rfl) hfc
    simp only[Nat.zero_add,List.nil_append]at g1 g2 g3
    obtain⟨c',q1,q2,q3,q4,q5⟩:=new_row_drew hs hi hnV hok hnl g2 g1
    exact⟨c',_,by rw[g3,q1],q2,q3,q4,q5⟩
   ·cases h
 ·
  rename_i g xs full
  obtain⟨blk,off,sp,cap,sz,rfl,hi',hc,hf,hr⟩:=hsv.isl_inv
  split at h
  ·rename_i hn0
   subst hn0
   injection h with h;injection h with h1 h2;subst h1 h2
   have hnil:news=[]:=by cases news <;> simp_all
   subst hnil
   refine GoodV.same hs (x:=.slice (some ⟨blk,off,sp⟩) xs.length cap) ?_ hsv
   rw[run_append_in he hsi rfl hi ats ty hat hz hlo (by omega) c.w (hfc c.w λ_ _=>rfl)]
   simp[storeCells]
  ·rename_i hn0
   split at h
   ·rename_i hcd
    simp only[Bool.and_eq_true]at hcd
    injection h with h;injection h with h1 h2;subst h1 h2
    have hcap:=hf hcd.1.1
    have hel2:elems c.Z i.size (.isl g xs full)=some (xs.flatten,xs.length):=by simp[elems,hcd.1.2]
    obtain⟨olds,hoV,hol,hofc,_,hook⟩:=elems_sound (P:=P) hs hel2 hsv
    obtain⟨nc,rest,g1,g2,g3⟩:=run_append_new he hsi rfl hi ats ty hat hz rfl hlo (by omega) (roomy_spec hcd.2 (by omega)) c.w hofc hfc
    obtain⟨c',q1,q2,q3,q4,q5⟩:=new_row_drew hs hi (hoV.append hnV) (ok_append hook hok) (by simp[hol,hnl,Nat.add_mul]) g2 g1
    exact⟨c',_,by rw[g3,q1],q2,q3,q4,q5⟩
   ·cases h
 ·
  rename_i b off len cap
  obtain⟨cap',rfl,hb,hl,hk1,hk2⟩:=hsv.sl_inv
  split at h
  case h_2=>cases h
  rename_i t cs ex hob
  split at h
  ·cases h
  rename_i hform
  simp only[Bool.not_eq_true',Bool.not_eq_false,Bool.and_eq_true,beq_iff_eq,decide_eq_true_eq]at hform
  obtain⟨⟨rfl,hle⟩,hrm⟩:=hform
  obtain⟨arr,a1,a2,⟨i',a3,a3'⟩,a4,a5,a6,a7⟩:=(hs.obj b _ hob).cells_inv
  have hii:i'=i:=by rw[hi]at a3;exact (Option.some.inj a3).symm
  subst hii
  have hlv:live c.Z b:=⟨_,hob,rfl⟩
  have hsz:0<i'.size:=Nat.pos_of_ne_zero hpl.2
  have hel2:elems c.Z i'.size (.sl b off len cap)=some ((cs.drop off).take (len*i'.size),len):=by simp[elems,hob,hle]
  obtain⟨olds,hoV,hol,hofc,_,hook⟩:=elems_sound (P:=P) hs hel2 hsv
  have inplace:len+n<=cap'->off+(len+n)*i'.size<=cs.length ->
    GoodV E c ((Builtin.append_ ats ty #[.slice (some ⟨c.blk b,off,none⟩) len cap',x]).run P c.w) (.sl b off (len+n) cap) (c.Z.set b (.cells t (setCells cs (off+len*i'.size) new) ex)):=by
   intro h1 h2
   obtain⟨c',p1,p2,p3,p4⟩:=put_cells (P:=P) hs hob (off:=off+len*i'.size) hnV hok (by have:=hnV.len;rw[Nat.add_mul]at h2;omega)
   refine⟨c',.slice (some ⟨c.blk b,off,none⟩) (len+n) cap',?_,p2,p3,p4,?_⟩
   ·rw[run_append_in he hsi rfl hi ats ty hat hz hlo h1 c.w (hfc c.w λ_ _=>rfl)]
    simp only[Addr.add_lit,p1,Result.andThen_ok]
   ·rw[<- p3.blk b hb]
    exact .sl _ _ _ _ _ (Nat.lt_of_lt_of_le hb p3.len) h1 hk1 (λe=>by rw[p3.esz b hb,p3.tot b hb];exact hk2 e)
  have realloc:cap'<len+n ->
    GoodV E c ((Builtin.append_ ats ty #[.slice (some ⟨c.blk b,off,none⟩) len cap',x]).run P c.w) (.sl c.Z.length 0 (len+n) none) (c.Z++[.cells t ((cs.drop off).take (len*i'.size)++new) false]):=by
   intro h1
   obtain⟨nc,rest,g1,g2,g3⟩:=run_append_new he hsi rfl hi ats ty hat hz rfl hlo h1 (roomy_spec hrm h1) c.w hofc hfc
   obtain⟨c',q1,q2,q3,q4,q5⟩:=new_row_drew hs hi (hoV.append hnV) (ok_append hook hok) (by simp[hol,hnl,Nat.add_mul]) g2 g1
   exact⟨c',_,by rw[g3,q1],q2,q3,q4,q5⟩
  split at h
  ·rename_i k
   have hck:=hk1 k rfl
   split at h
   ·rename_i hlek
    split at h
    ·rename_i hfit
     injection h with h;injection h with h1 h2;subst h1 h2
     exact inplace (by omega) (by simpa using hfit)
    ·cases h
   ·rename_i hlek
    injection h with h;injection h with h1 h2;subst h1 h2
    exact realloc (by omega)
  ·have htot:=hk2 rfl
   rw[a3']at htot
   split at h
   ·rename_i hfit
    injection h with h;injection h with h1 h2;subst h1 h2
    have hfit':off+(len+n)*i'.size<=cs.length:=by simpa using hfit
    refine inplace ?_ hfit'
    have:(len+n)*i'.size<=cap'*i'.size:=by omega
    exact Nat.le_of_mul_le_mul_right this hsz
   ·rename_i hfit
    have hfit':¬ off+(len+n)*i'.size<=cs.length:=by simpa using hfit
    split at h
    ·rename_i hex
     injection h with h;injection h with h1 h2;subst h1 h2
     refine realloc ?_
     have:=a5 hex
     apply Nat.lt_of_not_le
     intro hge
     have:(len+n)*i'.size<=cap'*i'.size:=Nat.mul_le_mul_right _ hge
     omega
    ·split at h
     ·rename_i hoff
      subst hoff
      injection h with h;injection h with h1 h2;subst h1 h2
      by_cases hin:len+n<=cap'
      ·
       have hput:=hs
       obtain⟨vals,hvals⟩:∃vals:List Value,vals=arr.toList.take (len*i'.size)++news++arr.toList.drop (len*i'.size+news.length):=⟨_,rfl⟩
       have hnv:=hnV.len
       have hroom:len*i'.size+news.length<=arr.size:=by
        have:(len+n)*i'.size<=cap'*i'.size:=Nat.mul_le_mul_right _ hin
        rw[Nat.add_mul]at this
        omega
       have hrun:=run_storeCells_at (P:=P) (c.blk b) 0 t news (len*i'.size) arr c.w a1 (by omega) (hnV.okCells hok)
       rw[setRow_eq a1]at hrun
       simp only[Nat.zero_add]at hrun
       rw[<- hvals]at hrun
       have hvl:vals.toArray.size=arr.size:=by rw[hvals];simp;omega
       let c1:Cx:=c.put b (.cells vals.toArray t (0,0)) .dead
       have e1:Ext c c1:=Cx.put_ext hlv _ _
       have s1:SR E c1:=Cx.put_sr hs hlv _ _ trivial
       let c2:Cx:={ c1 with Z:=c1.Z++[.cells t (cs.take (len*i'.size)++new) false],blk:=λx=>if x=c.Z.length then c.blk b else c.blk x,tot:=λx=>if x=c.Z.length then c.tot b else c.tot x,esz:=λx=>if x=c.Z.length then c.esz b else c.esz x }
       have hln:c1.Z.length=c.Z.length:=by simp[c1,Cx.put]
       have liv:∀b',live c2.Z b'->(live c.Z b'/\b'≠b/\b'<c.Z.length)\/b'=c.Z.length:=by
        intro b' hb'
        rcases live_append hb' with hb' | ⟨hb',_⟩
        ·have:=live_kill hb'
         exact .inl ⟨this.1,this.2,live_lt this.1⟩
        ·exact .inr (by rw[hb',hln])
       have e2:Ext c c2:=by
        refine⟨e1.size,λk hk ho=>⟨(e1.keep k hk ho).1,?_⟩,by simp[c2,c1,Cx.put],λb' hb'=>by simp[c2,Nat.ne_of_lt hb'],λb' hb'=>by simp[c2,Nat.ne_of_lt hb'],λb' hb'=>by simp[c2,Nat.ne_of_lt hb'],rfl,rfl,rfl,rfl⟩
        rintro⟨b',hl',hbk⟩
        rcases liv b' hl' with⟨g1,_,g3⟩ | rfl
        ·exact ho ⟨b',g1,by simpa [c2,Nat.ne_of_lt g3]using hbk⟩
        ·exact ho ⟨b,hlv,by simpa [c2]using hbk⟩
       have hV2:VRs c2 (cs.take (len*i'.size)++new) (arr.toList.take (len*i'.size)++news):=by
        have:=(a6.take (len*i'.size)).append hnV
        rw[List.take_take,Nat.min_eq_left (by omega)]at this
        exact VRs.mono e2 this
       have hheap:c2.w.heap[c.blk b]?=some (.cells vals.toArray t (0,0)):=by
        have:=heap_lt a1
        simp[c2,c1,Cx.put,this]
       have s2:SR E c2:=by
        refine⟨λb1 b2 h1 h2 e=>?_,λb' o' hb'=>?_,λb' hl'=>?_,λk hk=>s1.ancLt k hk,gl_ext e2 hs.gl⟩
        ·rcases liv b1 h1 with⟨g1,g2,g3⟩ | rfl <;> rcases liv b2 h2 with⟨k1,k2,k3⟩ | rfl
         ·exact hs.inj b1 b2 g1 k1 (by simpa [c2,Nat.ne_of_lt g3,Nat.ne_of_lt k3]using e)
         ·exact absurd (hs.inj b1 b g1 hlv (by simpa [c2,Nat.ne_of_lt g3]using e)) g2
         ·exact absurd (hs.inj b2 b k1 hlv (by simpa [c2,Nat.ne_of_lt k3]using e.symm)) k2
         ·rfl
        ·by_cases hl':live c2.Z b'
         ·rcases liv b' hl' with⟨g1,g2,g3⟩ | rfl
          ·have hb2:(c.Z.set b .dead++[.cells t (cs.take (len*i'.size)++new) false])[b']?=some o':=hb'
           rw[List.getElem?_append_left (by simpa using g3),List.getElem?_set_ne (λe=>g2 e.symm)]at hb2
           refine (hs.obj b' o' hb2).mono e2 g3 ?_
           have:c.blk b≠c.blk b':=λe=>g2 (hs.inj b b' hlv g1 e).symm
           simp[c2,c1,Cx.put,Array.getElem?_setIfInBounds,this]
          ·have hb2:(c.Z.set b .dead++[.cells t (cs.take (len*i'.size)++new) false])[c.Z.length]?=some o':=hb'
           rw[List.getElem?_append_right (by simp)]at hb2
           simp at hb2
           subst hb2
           refine ObjR.cells_mk (arr:=vals.toArray) (xs:=arr.toList.take (len*i'.size)++news) (ys:=arr.toList.drop (len*i'.size+news.length)) ?_ ?_ ⟨i',hi,?_⟩ (λh=>by cases h) (by simp[hvals]) hV2 (ok_append (ok_take (a:=0) a7) hok)
           ·simpa [c2]using hheap
           ·simp only[c2,if_true];rw[hvl,a2]
           ·simp only[c2,if_true];exact a3'
         ·cases o' with
          |dead=>exact True.intro
          |_=>exact (hl' ⟨_,hb',rfl⟩).elim
        ·rcases liv b' hl' with⟨g1,_,g3⟩ | rfl
         ·have:=hs.anc b' g1
          simpa [c2,c1,Cx.put,Nat.ne_of_lt g3]using this
         ·have:=hs.anc b hlv
          simpa [c2,c1,Cx.put]using this
       refine⟨c2,.slice (some ⟨c.blk b,0,none⟩) (len+n) cap',?_,rfl,e2,s2,?_⟩
       ·rw[run_append_in he hsi rfl hi ats ty hat hz hlo hin c.w (hfc c.w λ_ _=>rfl)]
        have hst:(storeCells ((⟨c.blk b,0,none⟩:Addr).add (len*i'.size)) news 0).run P c.w=(storeCells ⟨c.blk b,0,none⟩ news (len*i'.size)).run P c.w:=by
         have hrun':=run_storeCells_at (P:=P) (c.blk b) (len*i'.size) t news 0 arr c.w a1 (by omega) (hnV.okCells hok)
         rw[setRow_eq a1]at hrun'
         simp only[Nat.add_zero]at hrun'
         rw[<- hvals]at hrun'
         rw[Addr.add_lit,Nat.zero_add,hrun',hrun]
        dsimp only
        rw[hst,hrun]
        rfl
       ·have:c2.blk c.Z.length=c.blk b:=by simp[c2]
        rw[<- this]
        refine .sl _ _ _ _ _ (by simp[c2,c1,Cx.put]) hin (λk hk=>by cases hk) (λ_=>?_)
        simp only[c2,if_true]
        rw[a3'];exact htot
      ·
       obtain⟨nc,rest,g1,g2,g3⟩:=run_append_new he hsi rfl hi ats ty hat hz rfl hlo (by omega) (roomy_spec hrm (by omega)) c.w hofc hfc
       have e1:=c.kill_ext b
       obtain⟨c',q1,q2,q3,q4,q5⟩:=new_row_drew (Cx.kill_sr hs b) hi (VRs.mono e1 (hoV.append hnV)) (ok_append hook hok) (len:=len+n) (by simp[hol,hnl,Nat.add_mul]) g2 g1
       refine⟨c',.slice (some ⟨c.w.heap.size,0,none⟩) (len+n) nc,by rw[g3,q1];rfl,?_,e1.trans q3,q4,?_⟩
       ·rw[q2];simp[Cx.kill]
       ·simpa [Cx.kill]using q5
     ·cases h
 ·cases h
end
end
section
section
variable {P:Program}{E:Env}{c:Cx}
theorem made_cells (z:Array Value) (m:Nat) {size:Nat}(hz:z.size=size) :
  ((Array.range (m*size)).map ((if m*size=0 then #[] else z)[· % (if m*size=0 then #[] else z).size]!)).toList=repsX m z.toList:=by
 subst hz
 by_cases h:m*z.size=0
 ·have:repsX m z.toList=[]:=by
   rcases Nat.mul_eq_zero.1 h with rfl | h0
   ·rfl
   ·have:z = #[]:=Array.eq_empty_of_size_eq_zero h0
    subst this
    induction m with
    |zero=>rfl
    |succ m ih=>simp[repsX]at *;exact ih
  rw[this,h];simp
 ·simp only[h,if_false]
  have:=zeroCells_eq z m
  simpa [Builtin.zeroCells]using this
theorem ok_reps {z:List V}(h:z.all V.okCell=true) (n:Nat):(reps n z).all V.okCell=true:=by
 induction n with
 |zero=>rfl
 |succ n ih=>simp only[reps,List.all_append,h,ih,Bool.and_self]
theorem new_slice (hs:SR E c) {e:Nat}{i:Ty}(hi:E.ty e=some i) {cs:List V}{xs:Array Value}(hv:VRs c cs xs.toList)(hok:cs.all V.okCell=true) {len cap:Nat}(hl:len<=cap)(hx:xs.size=cap*i.size) :
  ∃c',c'.w={ c.w with heap:=c.w.heap.push (.cells xs e (0,0)) }/\c'.Z=c.Z++[.cells e cs true]/\Ext c c'/\SR E c'/\VR c' (.sl c.Z.length 0 len none) (.slice (some ⟨c.w.heap.size,0,none⟩) len cap):=by
 obtain⟨c',h1,h2,h3,h4,h5,h6,h7⟩:=new_cells hs hi hv hok
 refine⟨c',h1,h2,h3,h4,?_⟩
 rw[<- h5]
 exact .sl _ _ _ _ _ (by rw[h2];simp) hl (λk hk=>by cases hk) (λ_=>by rw[h6,h7,hx];simp)
theorem fill_ok {place:Nat->Option (Nat × Nat)}:∀{ps:List (Nat × V)}{cells cells':List V},fill place cells ps=some cells'->cells.all V.okCell=true->cells'.all V.okCell=true
 | [],cells,cells',h,hk=>by simp only[fill]at h;injection h with h;subst h;exact hk
 |(n,v)::ps,cells,cells',h,hk=>by
  simp only[fill]at h
  split at h
  ·cases h
  ·split at h
   ·cases h
   ·rename_i hc
    simp only[Bool.or_eq_true,decide_eq_true_eq,not_or,Bool.not_eq_true,Bool.not_eq_false']at hc
    exact fill_ok h (ok_set hk hc.2)
theorem buildSlice_sound (he:EnvOk P E)(hs:SR E c) {t e:Nat}{si i:Ty}(hsi:E.ty t=some si)(hk:si.kd=.sl e)(hi:E.ty e=some i) {len:Nat}{ps:List (Nat × V)}{qs:Array (Nat × Value)}(hp:PR c ps qs.toList)
  (hle:len*i.size<=16777216) {cs:List V}(h:fill (λj=>some (j*i.size,i.size)) (reps len i.zero.cells) ps=some cs) :
  GoodV E c ((Instr.buildSlice t len qs).run P c.w) (.sl c.Z.length 0 len none) (c.Z++[.cells e cs true]):=by
 have ht:=he.ty e i hi
 obtain⟨d,hd,hkd⟩:=(he.ty t si hsi).kd
 rw[hk]at hkd
 simp only[KdR]at hkd
 subst hkd
 obtain⟨z,hz,hr,hzs⟩:=ht.zero
 have hv:VR c i.zero z:=(hr _ _).vr
 have hbase:VRs c (reps len i.zero.cells) (((Array.range (len*i.size)).map ((if len*i.size=0 then #[] else z.cells)[· % (if len*i.size=0 then #[] else z.cells).size]!))).toList:=by
  rw[made_cells _ _ hzs]
  exact reps_vrs hv.cells len
 obtain⟨arr,r1,r2,r3⟩:=fill_sound (c:=c) _ hp hbase h
 obtain⟨c',q1,q2,q3,q4,q5⟩:=new_slice hs hi r2 (fill_ok h (ok_reps (hr c.w c.imm).okCells len)) (Nat.le_refl len) (by rw[r3];simp)
 refine⟨c',_,?_,q2,q3,q4,q5⟩
 unfold Instr.buildSlice
 simp only[Sem.run_bind,run_underlying hd,Result.andThen_ok,ht.size]
 rw[Sem.run_ite,if_neg (by omega)]
 by_cases h0:len*i.size=0
 ·simp only[h0,if_true]at r1 ⊢
  simp only[Sem.run_bind,Sem.run_pure,Result.andThen_ok]
  rw[r1]
  simp[newRow,q1]
 ·simp only[h0,if_false]at r1 ⊢
  simp only[Sem.run_bind,Sem.run_pure,hz,Result.andThen_ok]
  rw[r1]
  simp[newRow,q1]
theorem makeSlice_sound (he:EnvOk P E)(hs:SR E c) {t e:Nat}{si i:Ty}(hsi:E.ty t=some si)(hk:si.kd=.sl e)(hi:E.ty e=some i) {k k':IntKind}{n m:Int}(h0:0<=n)(h1:n<=m)(h2:m*i.bytes<=1099511627776)(h3:m<=1099511627776) :
  GoodV E c ((Instr.makeSlice t (.int k n) (.int k' m)).run P c.w) (.sl c.Z.length 0 n.toNat none) (c.Z++[.cells e (reps m.toNat i.zero.cells) true]):=by
 have ht:=he.ty e i hi
 obtain⟨d,hd,hkd⟩:=(he.ty t si hsi).kd
 rw[hk]at hkd
 simp only[KdR]at hkd
 subst hkd
 obtain⟨z,hz,hr,hzs⟩:=ht.zero
 have hv:VR c i.zero z:=(hr _ _).vr
 obtain⟨inf,hinf,hsz,hby,_⟩:=ht.info
 have hbase:VRs c (reps m.toNat i.zero.cells) (((Array.range (m.toNat*i.size)).map ((if m.toNat*i.size=0 then #[] else z.cells)[· % (if m.toNat*i.size=0 then #[] else z.cells).size]!))).toList:=by
  rw[made_cells _ _ hzs]
  exact reps_vrs hv.cells _
 obtain⟨c',q1,q2,q3,q4,q5⟩:=new_slice hs hi hbase (ok_reps (hr c.w c.imm).okCells _) (len:=n.toNat) (cap:=m.toNat) (by omega) (by simp)
 refine⟨c',_,?_,q2,q3,q4,q5⟩
 have w1:IntKind.i64.wrap n=n:=wrap_in _ _ (by simp only[lo];omega) (by simp only[Ax.hi];omega)
 have w2:IntKind.i64.wrap m=m:=wrap_in _ _ (by simp only[lo];omega) (by simp only[Ax.hi];omega)
 have hb:¬ ((decide (m<0)||decide ((i.bytes:Int)*m > 2 ^ 48))||decide (n<0)||decide (n > m))=true:=by
  have:(i.bytes:Int)*m=m*i.bytes:=Int.mul_comm _ _
  simp only[Bool.or_eq_true,decide_eq_true_eq,not_or]
  omega
 unfold Instr.makeSlice
 simp only[Sem.run_bind,run_underlying hd,Result.andThen_ok,asInt,asIntOf,Sem.run_pure,run_typeInfo hinf,w1,w2,hby]
 rw[Sem.run_ite,if_neg hb]
 simp only[Sem.run_bind,run_askRoom,Result.andThen_ok,ht.size]
 by_cases hm0:m.toNat*i.size=0
 ·simp only[hm0,if_true]at q1 ⊢
  simp[newRow,q1]
 ·simp only[hm0,if_false]at q1 ⊢
  simp[newRow,q1,hz]
theorem bound_none {n d r:Nat}(h:bound n none d=some r):r=d:=by simp only[bound]at h;injection h with h;exact h.symm
theorem bound_some {n d r:Nat}{v:V}(h:bound n (some v) d=some r):∃k i,v=.int k i/\0<=i/\i<=n/\r=i.toNat:=by
 unfold bound at h
 split at h
 ·rename_i hv;cases hv
 ·rename_i k i hv
  split at h
  ·rename_i hc
   injection h with h
   simp only[Bool.and_eq_true,decide_eq_true_eq]at hc
   injection hv with hv
   exact⟨k,i,hv,hc.1,hc.2,h.symm⟩
  ·cases h
 ·cases h
inductive OR (c:Cx):Option V->Option Value->Prop
 |none:OR c none none
 |some (v:V) (x:Value)(h:VR c v x):OR c (some v) (some x)
theorem sliceBounds_sound {isSlice:Bool}{len cap:Nat}{lo hi mx:Option V}{lo' hi' mx':Option Value}(h1:OR c lo lo')(h2:OR c hi hi')(h3:OR c mx mx') {l h m:Nat}(hnm:(mx.isSome&&hi.isNone)=false)
  (hm:∀d,mx=none\/bound cap mx d=some m)(hm0:mx=none->m=cap)(hh:hi=none\/∃d,bound m hi d=some h)(hh0:hi=none->h=len)(hl:∃d,bound h lo d=some l)(hl0:lo=none->l=0) (w:World) :
  (Instr.sliceBounds isSlice len cap lo' hi' mx').run P w=.ok (l,h,m) w:=by
 have sb:∀{n d r:Nat}{v:V}{x:Value}{code:BoundsCode},bound n (some v) d=some r->VR c v x->(Instr.sliceBound x n code).run P w=.ok r w:=by
  intro n d r v x code hb hv
  obtain⟨k,i,rfl,g1,g2,rfl⟩:=bound_some hb
  rw[hv.int_inv]
  simp[Instr.sliceBound,asIntOf,g1,g2]
 unfold Instr.sliceBounds
 cases h3 with
 |none=>
  have:=hm0 rfl
  subst this
  cases h2 with
  |none=>
   have:=hh0 rfl
   subst this
   cases h1 with
   |none=>have:=hl0 rfl;subst this;rfl
   |some v x hv=>
    obtain⟨d,hd⟩:=hl
    simp only[Sem.run_bind,Sem.run_pure,Result.andThen_ok,sb hd hv]
  |some v2 x2 hv2=>
   obtain⟨d2,hd2⟩:=hh.resolve_left (by simp)
   cases h1 with
   |none=>have:=hl0 rfl;subst this;simp only[Sem.run_bind,Sem.run_pure,Result.andThen_ok,sb hd2 hv2]
   |some v x hv=>
    obtain⟨d,hd⟩:=hl
    simp only[Sem.run_bind,Sem.run_pure,Result.andThen_ok,sb hd2 hv2,sb hd hv]
 |some v3 x3 hv3=>
  have hd3:=(hm 0).resolve_left (by simp)
  cases h2 with
  |none=>simp at hnm
  |some v2 x2 hv2=>
   obtain⟨d2,hd2⟩:=hh.resolve_left (by simp)
   cases h1 with
   |none=>have:=hl0 rfl;subst this;simp only[Sem.run_bind,Sem.run_pure,Result.andThen_ok,sb hd2 hv2,sb hd3 hv3]
   |some v x hv=>
    obtain⟨d,hd⟩:=hl
    simp only[Sem.run_bind,Sem.run_pure,Result.andThen_ok,sb hd2 hv2,sb hd hv,sb hd3 hv3]
theorem bound_eq_none {n d r:Nat}{x:Option V}(h:bound n x d=some r)(hx:x=none):r=d:=by subst hx;exact bound_none h
theorem bound_mono {n n' d r:Nat}{v:V}(h:bound n (some v) d=some r)(hn:n<=n') {d':Nat}:bound n' (some v) d'=some r:=by
 obtain⟨k,i,rfl,h1,h2,rfl⟩:=bound_some h
 simp only[bound]
 rw[if_pos (by simp only[Bool.and_eq_true,decide_eq_true_eq];constructor <;> omega)]
theorem bound_mono' {n n' d r:Nat}{v:V}(h:bound n (some v) d=some r)(hn:r<=n') {d':Nat}:bound n' (some v) d'=some r:=by
 obtain⟨k,i,rfl,h1,h2,rfl⟩:=bound_some h
 simp only[bound]
 rw[if_pos (by simp only[Bool.and_eq_true,decide_eq_true_eq];constructor <;> omega)]
theorem bound_any' {n d r:Nat}{v:V}(h:bound n (some v) d=some r):r<=n:=by
 obtain⟨k,i,_,h1,h2,rfl⟩:=bound_some h
 omega
theorem bound_le {n d r:Nat}{x:Option V}(h:bound n x d=some r)(hd:d<=n):r<=n:=by
 cases x with
 |none=>rw[bound_none h];exact hd
 |some v=>obtain⟨k,i,_,h1,h2,rfl⟩:=bound_some h;omega
theorem bytes_extract (s:ByteArray) (l h:Nat):bytes (s.extract l h)=((bytes s).drop l).take (h-l):=by
 simp[bytes,List.map_drop,List.map_take,Array.toList_extract,List.extract_eq_take_drop]
theorem slice_sound (he:EnvOk P E)(hs:SR E c) {t:Nat}{xv v:V}{x:Value}{lo hi mx:Option V}{lo' hi' mx':Option Value}(h:slice E c.Z t xv lo hi mx=some v)(hv:VR c xv x)(h1:OR c lo lo')(h2:OR c hi hi')(h3:OR c mx mx') :
  ∃y,(Instr.sliceAt t x lo' hi' mx').run P c.w=.ok y c.w/\VR c v y:=by
 unfold slice at h
 split at h
 ·cases h
 rename_i ti hti
 obtain⟨d,hd,hkd⟩:=(he.ty t ti hti).kd
 split at h
 ·
  rename_i s hk
  rw[hk]at hkd;simp only[KdR]at hkd;subst hkd
  split at h
  ·cases h
  rename_i hmx
  have hmx':mx=none:=by cases mx <;> simp_all
  subst hmx'
  cases h3
  split at h
  ·cases h
  rename_i hh hbh
  split at h
  ·cases h
  rename_i l hbl
  injection h with h;subst h
  obtain⟨b,rfl,rfl⟩:=hv.str_inv
  rw[bytes_len]at hbh
  refine⟨.string (b.extract l hh),?_,by rw[<- bytes_extract];exact .inl (.str _)⟩
  have:=sliceBounds_sound (P:=P) (c:=c) (isSlice:=false) (len:=b.size) (cap:=b.size) h1 h2 .none (l:=l) (h:=hh) (m:=b.size) (by simp) (λ_=>.inl rfl) (λ_=>rfl) (.inr ⟨_,hbh⟩) (λe=>bound_eq_none hbh e) ⟨_,hbl⟩ (λe=>bound_eq_none hbl e) c.w
  simp[Instr.sliceAt,run_underlying hd,Instr.slice,this]
 ·
  rename_i e hk
  rw[hk]at hkd;simp only[KdR]at hkd;subst hkd
  split at h
  case h_2=>cases h
  rename_i i m hei hbm hnm
  split at h
  case h_2=>cases h
  rename_i hh hbh
  split at h
  case h_2=>cases h
  rename_i l hbl
  injection h with h;subst h
  rw[hv.nils_inv]
  have e1:m=0:=by have:=bound_le hbm (Nat.le_refl 0);omega
  subst e1
  have e2:hh=0:=by have:=bound_le hbh (Nat.le_refl 0);omega
  subst e2
  have e3:l=0:=by have:=bound_le hbl (Nat.le_refl 0);omega
  subst e3
  have:=sliceBounds_sound (P:=P) (c:=c) (isSlice:=true) (len:=0) (cap:=0) h1 h2 h3 (l:=0) (h:=0) (m:=0) hnm (λd=>by cases mx with
   |none=>exact .inl rfl
   |some v=>exact .inr (by obtain⟨k,i,rfl,g1,g2,g3⟩:=bound_some hbm;simp[bound];omega)) (λ_=>rfl) (.inr ⟨_,hbh⟩) (λ_=>rfl) ⟨_,hbl⟩ (λ_=>rfl) c.w
  refine⟨.slice none 0 0,?_,.inl .nils⟩
  simp[Instr.sliceAt,run_underlying hd,Instr.slice,this,(he.ty e i hei).size]
 ·
  rename_i e g xs full hk
  rw[hk]at hkd;simp only[KdR]at hkd;subst hkd
  split at h
  case h_2=>cases h
  rename_i i hei hnm
  split at h
  ·cases h
  rename_i hsz
  simp only[Bool.not_eq_true',Bool.not_eq_false]at hsz
  split at h
  ·cases h
  rename_i m hbm
  split at h
  ·cases h
  rename_i hh hbh
  split at h
  ·cases h
  rename_i l hbl
  injection h with h;subst h
  obtain⟨blk,off,sp,cap,sz,rfl,hi',hc,hf,hr⟩:=hv.isl_inv
  have hr:=hr.resize hsz
  have hml:=bound_le hbm (Nat.le_refl _)
  have hhm:hh<=m:=by
   cases hi with
   |none=>cases mx with
    |none=>have:=bound_none hbm;have:=bound_none hbh;omega
    |some v=>simp at hnm
   |some u=>exact bound_any' hbh
  have hlh:=bound_le hbl (Nat.zero_le _)
  have hhx:hh<=xs.length:=by omega
  have hmx:∀v,mx=some v->hh<=m:=λv e=>hhm
  obtain⟨m',hm',hm1,hm2⟩:∃m',(mx=none->m'=cap)/\(∀v,mx=some v->m'=m)/\m<=m':=by
   cases mx with
   |none=>exact⟨cap,λ_=>rfl,λv e=>(nomatch e),by omega⟩
   |some v=>exact⟨m,λe=>(nomatch e),λ_ _=>rfl,Nat.le_refl _⟩
  have:=sliceBounds_sound (P:=P) (c:=c) (isSlice:=true) (len:=xs.length) (cap:=cap) h1 h2 h3 (l:=l) (h:=hh) (m:=m') hnm (λd=>by
   cases mx with
   |none=>exact .inl rfl
   |some v=>exact .inr (by rw[hm1 v rfl];exact bound_mono hbm hc)) hm' (by
    cases hi with
    |none=>exact .inl rfl
    |some u=>exact .inr ⟨0,bound_mono hbh hm2⟩) (λe=>bound_eq_none hbh e) ⟨_,hbl⟩ (λe=>bound_eq_none hbl e) c.w
  have hm0:cap=0->m'=0:=λe0=>by
   cases mx with
   |none=>rw[hm' rfl,e0]
   |some v=>rw[hm1 v rfl];omega
  rcases hi' with⟨rfl,hi'⟩ | ⟨rfl,rfl⟩
  case inr=>
   have h0:=hm0 rfl
   subst h0
   obtain rfl:hh=0:=by omega
   obtain rfl:l=0:=by omega
   refine⟨.slice (some ⟨blk,off,sp⟩) 0 0,?_,.inl ?_⟩
   ·have this:Sem.run P (Instr.sliceBounds true 0 0 lo' hi' mx') c.w=Result.ok (0,0,0) c.w:=this
    simp[Instr.sliceAt,run_underlying hd,Instr.slice,this,(he.ty e i hei).size]
   ·simp only[List.drop_zero,Nat.sub_zero,List.take_zero]
    exact .emp _ _ _
  refine⟨.slice (if m'=l then some ⟨blk,off,none⟩ else some ⟨blk,off+l*i.size,none⟩) (hh-l) (m'-l),?_,?_⟩
  ·by_cases hq:m'=l <;> simp[Instr.sliceAt,run_underlying hd,Instr.slice,this,(he.ty e i hei).size,hq,Addr.add_lit]
  ·have hlen:((xs.drop l).take (hh-l)).length=hh-l:=by simp;omega
   have hfull:fullOf mx m hh full xs.length=true->m'-l=hh-l:=by
    unfold fullOf
    cases mx with
    |none=>simp only[Bool.and_eq_true,beq_iff_eq];rintro⟨e1,e2⟩;have:=hf e1;have:=hm' rfl;omega
    |some v=>simp only[beq_iff_eq];intro e1;have:=hm1 v rfl;omega
   by_cases hq:m'=l
   ·rw[if_pos hq]
    have h0:hh-l=0:=by omega
    refine .inl (.isl g _ _ blk off (hh-l) (m'-l) i.size hi' hlen.symm (by omega) hfull ?_)
    rw[h0];simp;exact .nil
   ·rw[if_neg hq]
    exact .inl (.isl g _ _ blk (off+l*i.size) (hh-l) (m'-l) i.size hi' hlen.symm (by omega) hfull ((hr.drop l).take _))
 ·
  rename_i e b off len cap hk
  rw[hk]at hkd;simp only[KdR]at hkd;subst hkd
  split at h
  case h_2=>cases h
  rename_i i u cs ex hei hob hnm
  split at h
  ·cases h
  rename_i hsz
  have hpos:0<i.size:=Nat.pos_of_ne_zero hsz
  obtain⟨cap',rfl,hb,hl,hk1,hk2⟩:=hv.sl_inv
  obtain⟨arr,a1,a2,⟨i',a3,a3'⟩,a4,a5,a6,a7⟩:=(hs.obj b _ hob).cells_inv
  split at h
  ·cases h
  rename_i hue
  simp only[Bool.not_eq_true',Bool.not_eq_false,beq_iff_eq]at hue
  subst hue
  have hii:i'=i:=by rw[hei]at a3;exact (Option.some.inj a3).symm
  subst hii
  have hroom:∀k,cap=none->k<=(cs.length-off) / i'.size->k<=cap':=by
   intro k e hk
   have:=hk2 e
   rw[a3']at this
   have h1:=(Nat.le_div_iff_mul_le hpos).1 hk
   by_cases hoc:off<=cs.length
   ·have:k*i'.size<=cap'*i'.size:=by omega
    exact Nat.le_of_mul_le_mul_right this hpos
   ·have:cs.length-off=0:=by omega
    rw[this]at h1
    have:k=0:=by
     rcases Nat.mul_eq_zero.1 (Nat.le_zero.1 h1) with h | h
     ·exact h
     ·omega
    omega
  have htop:∀k,k<=topOf cs.length off i'.size cap->k<=cap':=by
   intro k hk
   unfold topOf at hk
   cases cap with
   |none=>exact hroom k rfl hk
   |some q=>
    have:=hk1 q rfl
    simp only at hk
    split at hk <;> omega
  have addr:∀l,(Addr.add ⟨c.blk b,off,none⟩ (l*i'.size))=⟨c.blk b,off+l*i'.size,none⟩:=λl=>Addr.add_lit _ _ _
  split at h
  ·
   rename_i vm hmx
   split at h
   ·cases h
   rename_i m hbm
   split at h
   ·cases h
   rename_i hh hbh
   split at h
   ·cases h
   rename_i l hbl
   have hmc:m<=cap':=htop m (bound_le hbm (Nat.zero_le _))
   have hhm:=bound_le hbh (Nat.zero_le _)
   have hlh:=bound_le hbl (Nat.zero_le _)
   have:=sliceBounds_sound (P:=P) (c:=c) (isSlice:=true) (len:=len) (cap:=cap') h1 h2 h3 (l:=l) (h:=hh) (m:=m) hnm (λd=>.inr (bound_mono' hbm hmc)) (λe=>by cases e) (by
     cases hi with
     |none=>simp at hnm
     |some u=>exact .inr ⟨_,hbh⟩) (λe=>by subst e;simp at hnm) ⟨_,hbl⟩ (λe=>bound_eq_none hbl e) c.w
   split at h
   ·rename_i hml
    injection h with h;subst h
    refine⟨.slice (some ⟨c.blk b,off,none⟩) 0 0,?_,.sl _ _ _ _ _ hb (Nat.le_refl 0) (λk e=>by injection e) (λe=>by cases e)⟩
    have e1:hh-l=0:=by omega
    have e2:m-l=0:=by omega
    simp[Instr.sliceAt,run_underlying hd,Instr.slice,this,(he.ty u i' hei).size,hml,e1]
   ·rename_i hml
    injection h with h;subst h
    refine⟨.slice (some ⟨c.blk b,off+l*i'.size,none⟩) (hh-l) (m-l),?_,.sl _ _ _ _ _ hb (by omega) (λk e=>by injection e) (λe=>by cases e)⟩
    simp[Instr.sliceAt,run_underlying hd,Instr.slice,this,(he.ty u i' hei).size,hml,addr]
  ·
   rename_i hmx
   cases h3
   split at h
   ·cases h
   rename_i hh hbh
   split at h
   ·cases h
   rename_i l hbl
   have hhc:hh<=cap':=by
    cases hi with
    |none=>have:=bound_none hbh;omega
    |some u=>exact htop hh (bound_any' hbh)
   have hlh:=bound_le hbl (Nat.zero_le _)
   have:=sliceBounds_sound (P:=P) (c:=c) (isSlice:=true) (len:=len) (cap:=cap') h1 h2 .none (l:=l) (h:=hh) (m:=cap') (by simp) (λd=>.inl rfl) (λ_=>rfl) (by
     cases hi with
     |none=>exact .inl rfl
     |some u=>exact .inr ⟨0,bound_mono' hbh hhc⟩) (λe=>bound_eq_none hbh e) ⟨_,hbl⟩ (λe=>bound_eq_none hbl e) c.w
   have run:∀y,y=Value.slice (if cap'=l then some ⟨c.blk b,off,none⟩ else some ⟨c.blk b,off+l*i'.size,none⟩) (hh-l) (cap'-l)->(Instr.sliceAt t (.slice (some ⟨c.blk b,off,none⟩) len cap') lo' hi' none).run P c.w=.ok y c.w:=by
    rintro y rfl
    simp only[Instr.sliceAt,Sem.run_bind,run_underlying hd,Result.andThen_ok,Instr.slice,this,(he.ty u i' hei).size,Sem.run_pure]
    by_cases hq:cap'=l
    ·rw[if_pos hq,if_pos hq]
    ·rw[if_neg hq,if_neg hq,Option.map_some,addr]
   split at h
   ·rename_i k
    have hkc:=hk1 k rfl
    split at h
    ·rename_i hkl
     injection h with h;subst h
     refine⟨_,run _ rfl,?_⟩
     rw[if_pos (by omega),show hh-l=0 by omega,show cap'-l=0 by omega]
     exact .sl _ _ _ _ _ hb (Nat.le_refl 0) (λk e=>by injection e) (λe=>by cases e)
    ·rename_i hkl
     injection h with h;subst h
     refine⟨_,run _ rfl,?_⟩
     rw[if_neg (by omega)]
     exact .sl _ _ _ _ _ hb (by omega) (λk e=>by injection e;omega) (λe=>by cases e)
   ·have htot:=hk2 rfl
    rw[a3']at htot
    split at h
    ·rename_i hlt
     injection h with h;subst h
     have hlc:l<cap':=by
      apply Nat.lt_of_not_le
      intro hge
      have:cap'*i'.size<=l*i'.size:=Nat.mul_le_mul_right _ hge
      omega
     refine⟨_,run _ rfl,?_⟩
     rw[if_neg (by omega)]
     refine .sl _ _ _ _ _ hb (by omega) (λk e=>by cases e) (λ_=>?_)
     rw[a3',<- htot,Nat.sub_mul]
     have:l*i'.size<=cap'*i'.size:=Nat.mul_le_mul_right _ (by omega)
     omega
    ·rename_i hlt
     split at h
     ·rename_i hex
      injection h with h;subst h
      have:=a5 hex
      have hlc:cap'<=l:=by
       apply Nat.le_of_not_lt
       intro hge
       have:l*i'.size<cap'*i'.size:=Nat.mul_lt_mul_of_pos_right hge hpos
       omega
      refine⟨_,run _ rfl,?_⟩
      rw[if_pos (by omega),show hh-l=0 by omega,show cap'-l=0 by omega]
      exact .sl _ _ _ _ _ hb (Nat.le_refl 0) (λk e=>by injection e) (λe=>by cases e)
     ·split at h
      ·rename_i hl0
       subst hl0
       injection h with h;subst h
       refine⟨_,run _ rfl,?_⟩
       have:(if cap'=0 then some (⟨c.blk b,off,none⟩:Addr) else some ⟨c.blk b,off+0*i'.size,none⟩)=some ⟨c.blk b,off,none⟩:=by simp
       rw[this]
       exact .sl _ _ _ _ _ hb (by omega) (λk e=>by cases e) (λ_=>by rw[a3',Nat.sub_zero];exact htot)
      ·cases h
 ·cases h
end
end
section
section
variable {P:Program}{E:Env}{c:Cx}
theorem beq_bytes (a b:ByteArray):(a==b)=seq (bytes a) (bytes b):=by rw[seq_bytes,beq_toListBytes]
theorem MapsI.mapR {es:List (V × V)}{l:List MapEntry}{g:Bool}(h:MapsI c.w (sub g c.imm) es l):MapR c es l:=by
 induction es generalizing l with
 |nil=>cases h;exact .nil
 |cons e es ih=>cases h with | cons k v es e l hk hv hr=>exact .cons k v es e l (hk.mono (sub_wider c g)) (hv.mono (sub_wider c g)).vr (ih hr)
theorem MapR.len {es:List (V × V)}{l:List MapEntry}(h:MapR c es l):es.length=l.length:=by
 induction h with
 |nil=>rfl
 |cons k v es e l hk hv hr ih=>simp[ih]
def apos (eq:V->V->Option Bool) (k:V):List (V × V)->Nat->Option (Option Nat)
 | [],_=>some none
 |(k',_)::r,i=>match eq k k' with
  |some true=>some (some i)
  |some false=>apos eq k r (i+1)
  |none=>none
theorem apos_le {eq:V->V->Option Bool}{k:V}:∀{es:List (V × V)}{i j:Nat},apos eq k es i=some (some j)->i<=j/\j<i+es.length
 | [],_,_,h=>by simp[apos]at h
 |(k',v)::es,i,j,h=>by
  simp only[apos]at h
  split at h
  ·injection h with h;injection h with h;subst h;simp
  ·have:=apos_le h;simp only[List.length_cons];omega
  ·cases h
theorem mfind_apos {eq:V->V->Option Bool}{k:V}:∀{es:List (V × V)}{r:Option V} (i:Nat),mfind eq k es=some r->∃p,apos eq k es i=some p/\r=p.bind λj=>(es[j-i]?).map (·.2)
 | [],r,i,h=>by simp only[mfind]at h;injection h with h;subst h;exact⟨none,rfl,rfl⟩
 |(k',v)::es,r,i,h=>by
  simp only[mfind]at h
  simp only[apos]
  split at h
  ·rename_i hb;injection h with h;subst h;simp only[hb];exact⟨some i,rfl,by simp⟩
  ·rename_i hb
   obtain⟨p,h1,h2⟩:=mfind_apos (i+1) h
   simp only[hb]
   refine⟨p,h1,?_⟩
   cases p with
   |none=>exact h2
   |some j=>
    have:=(apos_le h1).1
    rw[h2]
    simp only[Option.bind_some]
    rw[show j-i=(j-(i+1))+1 by omega]
    simp
  ·cases h
theorem mput_apos {eq:V->V->Option Bool}{k v:V}:∀{es es':List (V × V)} (i:Nat),mput eq k v es=some es'->∃p,apos eq k es i=some p/\es'=(match p with | none=>es++[(k,v)] | some j=>es.set (j-i) (k,v))/\∀j,p=some j->∃u,es[j-i]?=some u/\eq k u.1=some true
 | [],es',i,h=>by simp only[mput]at h;injection h with h;subst h;exact⟨none,rfl,rfl,λj e=>by cases e⟩
 |(k',v')::es,es',i,h=>by
  simp only[mput]at h
  simp only[apos]
  split at h
  ·rename_i hb;injection h with h;subst h;simp only[hb];exact⟨some i,rfl,by simp,λj e=>by injection e with e;subst e;exact⟨_,by simp;rfl,hb⟩⟩
  ·rename_i hb
   split at h
   ·rename_i r hr
    injection h with h;subst h
    obtain⟨p,h1,h2,h3⟩:=mput_apos (i+1) hr
    simp only[hb]
    refine⟨p,h1,?_,?_⟩
    ·cases p with
     |none=>simp[h2]
     |some j=>
      have:=(apos_le h1).1
      rw[h2]
      simp only
      rw[show j-i=(j-(i+1))+1 by omega]
      simp
    ·intro j e
     subst e
     have:=(apos_le h1).1
     obtain⟨u,g1,g2⟩:=h3 j rfl
     refine⟨u,?_,g2⟩
     rw[show j-i=(j-(i+1))+1 by omega]
     simpa using g1
   ·cases h
  ·cases h
theorem apos_none {eq:V->V->Option Bool}{k:V}:∀{es:List (V × V)}{i:Nat},apos eq k es i=some none->∀e∈es,eq k e.1=some false
 | [],_,_,e,he=>by cases he
 |(k',v)::es,i,h,e,he=>by
  simp only[apos]at h
  split at h
  ·cases h
  ·rename_i hb
   rcases List.mem_cons.1 he with rfl | he
   ·exact hb
   ·exact apos_none h e he
  ·cases h
theorem apos_some {eq:V->V->Option Bool}{k:V}:∀{es:List (V × V)}{i j:Nat},apos eq k es i=some (some j)->∃e,es[j-i]?=some e/\eq k e.1=some true
 | [],_,_,h=>by simp[apos]at h
 |(k',v)::es,i,j,h=>by
  simp only[apos]at h
  split at h
  ·rename_i hb
   injection h with h;injection h with h;subst h
   exact⟨_,by simp;rfl,hb⟩
  ·obtain⟨e,h1,h2⟩:=apos_some h
   have:=(apos_le h).1
   refine⟨e,?_,h2⟩
   rw[show j-i=(j-(i+1))+1 by omega]
   simpa using h1
  ·cases h
theorem apos_head {eq:V->V->Option Bool}{k:V}{e:V × V}{es:List (V × V)}{i:Nat}{p:Option Nat}(h:apos eq k (e::es) i=some p):∃b,eq k e.1=some b:=by
 simp only[apos]at h
 split at h
 ·rename_i hb;exact⟨_,hb⟩
 ·rename_i hb;exact⟨_,hb⟩
 ·cases h
theorem findNow_none {d:TypeDesc}{kx:Value}:∀{l:List MapEntry} (i:Nat),(∀m∈l,Instr.sameNow d kx m.key=some false)->Instr.findNow d kx l i=some none
 | [],_,_=>rfl
 |m::l,i,h=>by
  simp only[Instr.findNow,h m (List.mem_cons_self ..),findNow_none (i+1) λm hm=>h m (List.mem_cons_of_mem _ hm)]
theorem findNow_some {d:TypeDesc}{kx:Value}:∀{l:List MapEntry} (i:Nat) {m:MapEntry},(∀m∈l,∃b,Instr.sameNow d kx m.key=some b/\(b=true ↔ m.key=kx))->(l.map (·.key)).Nodup->m∈l->m.key=kx ->
  ∃j,l[j]?=some m/\Instr.findNow d kx l i=some (some (i+j,m.val))
 | [],_,_,_,_,hm,_=>by cases hm
 |m'::l,i,m,h,hn,hm,hk=>by
  obtain⟨b,h1,h2⟩:=h m' (List.mem_cons_self ..)
  simp only[List.map_cons,List.nodup_cons]at hn
  by_cases e:m'.key=kx
  ·have:m=m':=by
    rcases List.mem_cons.1 hm with rfl | hm
    ·rfl
    ·exact absurd (List.mem_map.2 ⟨m,hm,by rw[hk,e]⟩) hn.1
   subst this
   refine⟨0,rfl,?_⟩
   have:=h2.2 e
   subst this
   simp only[Instr.findNow,h1,Nat.add_zero]
  ·have hb:b=false:=by cases b with | false=>rfl | true=>exact absurd (h2.1 rfl) e
   subst hb
   have hm':m∈l:=by
    rcases List.mem_cons.1 hm with rfl | hm
    ·exact absurd hk e
    ·exact hm
   obtain⟨j,g1,g2⟩:=findNow_some (i+1) (λm hm=>h m (List.mem_cons_of_mem _ hm)) hn.2 hm' hk
   refine⟨j+1,by simpa using g1,?_⟩
   simp only[Instr.findNow,h1,g2]
   rw[show i+1+j=i+(j+1) by omega]
theorem findAsking_none {P:Program}{kt:Nat}{kx:Value}{w:World}:∀{l:List MapEntry} (i:Nat),(∀m∈l,(Op.equal kt kx m.key).run P w=.ok false w)->(Instr.findAsking kt kx l i).run P w=.ok none w
 | [],_,_=>rfl
 |m::l,i,h=>by
  simp only[Instr.findAsking,Sem.run_bind,h m (List.mem_cons_self ..),Result.andThen_ok,Bool.false_eq_true,if_false,findAsking_none (i+1) λm hm=>h m (List.mem_cons_of_mem _ hm)]
theorem findAsking_some {P:Program}{kt:Nat}{kx:Value}{w:World}:∀{l:List MapEntry} (i:Nat) {m:MapEntry},(∀m∈l,∃b,(Op.equal kt kx m.key).run P w=.ok b w/\(b=true ↔ m.key=kx))->(l.map (·.key)).Nodup->m∈l->m.key=kx ->
  ∃j,l[j]?=some m/\(Instr.findAsking kt kx l i).run P w=.ok (some (i+j,m.val)) w
 | [],_,_,_,_,hm,_=>by cases hm
 |m'::l,i,m,h,hn,hm,hk=>by
  obtain⟨b,h1,h2⟩:=h m' (List.mem_cons_self ..)
  simp only[List.map_cons,List.nodup_cons]at hn
  by_cases e:m'.key=kx
  ·have:m=m':=by
    rcases List.mem_cons.1 hm with rfl | hm
    ·rfl
    ·exact absurd (List.mem_map.2 ⟨m,hm,by rw[hk,e]⟩) hn.1
   subst this
   refine⟨0,rfl,?_⟩
   have:=h2.2 e
   subst this
   simp[Instr.findAsking,h1]
  ·have hb:b=false:=by cases b with | false=>rfl | true=>exact absurd (h2.1 rfl) e
   subst hb
   have hm':m∈l:=by
    rcases List.mem_cons.1 hm with rfl | hm
    ·exact absurd hk e
    ·exact hm
   obtain⟨j,g1,g2⟩:=findAsking_some (i+1) (λm hm=>h m (List.mem_cons_of_mem _ hm)) hn.2 hm' hk
   refine⟨j+1,by simpa using g1,?_⟩
   simp only[Instr.findAsking,Sem.run_bind,h1,Result.andThen_ok,Bool.false_eq_true,if_false,g2]
   rw[show i+1+j=i+(j+1) by omega]
theorem MapR.get {es:List (V × V)}{l:List MapEntry}(h:MapR c es l) {n:Nat}{e:V × V}(he:es[n]?=some e):∃m,l[n]?=some m/\IRa c.w c.imm e.1 m.key/\VR c e.2 m.val:=by
 induction h generalizing n with
 |nil=>simp at he
 |cons k v es m l hk hv hr ih=>
  cases n with
  |zero=>simp at he;subst he;exact⟨m,rfl,hk,hv⟩
  |succ n=>simpa using ih (by simpa using he)
theorem MapR.set {es:List (V × V)}{l:List MapEntry}(h:MapR c es l) {k v:V}{m:MapEntry}(hk:IRa c.w c.imm k m.key)(hv:VR c v m.val) (n:Nat):MapR c (es.set n (k,v)) (l.set n m):=by
 induction h generalizing n with
 |nil=>simp;exact .nil
 |cons k' v' es m' l hk' hv' hr ih=>
  cases n with
  |zero=>simp;exact .cons _ _ _ _ _ hk hv hr
  |succ n=>simp;exact .cons _ _ _ _ _ hk' hv' (ih n)
theorem MapR.snoc {es:List (V × V)}{l:List MapEntry}(h:MapR c es l) {k v:V}{m:MapEntry}(hk:IRa c.w c.imm k m.key)(hv:VR c v m.val):MapR c (es++[(k,v)]) (l++[m]):=by
 induction h with
 |nil=>exact .cons _ _ _ _ _ hk hv .nil
 |cons k' v' es m' l hk' hv' hr ih=>exact .cons _ _ _ _ _ hk' hv' ih
theorem Sc.irs {sh:List Kd}{as:List V}{xs:List Value}{w:World}{I:Bool->Nat->Prop}(h:Sc sh as xs):IRs w I as xs:=by
 induction h with
 |nil=>exact .nil
 |bool b sh vs xs h ih=>exact .cons _ _ _ _ (.bool _) ih
 |int k n sh vs xs h ih=>exact .cons _ _ _ _ (.int _ _) ih
 |str s sh vs xs h ih=>exact .cons _ _ _ _ (.str _) ih
theorem beq_bytes_iff {a b:ByteArray}:(a==b)=true ↔ a=b:=by
 rw[beq_bytes,seq_eq,decide_eq_true_eq]
 exact⟨bytes_inj,λh=>by rw[h]⟩
theorem Sc.same {sh:List Kd}{as:List V}{xs:List Value}(h:Sc sh as xs) (n:Nat):∀q∈xs.zip xs,Instr.sameBits n q.1 q.2=true:=by
 induction h with
 |nil=>intro q hq;simp at hq
 |bool b sh vs xs h ih=>
  intro q hq
  simp only[List.zip_cons_cons,List.mem_cons]at hq
  rcases hq with rfl | hq
  ·cases n <;> simp[Instr.sameBits]
  ·exact ih q hq
 |int k m sh vs xs h ih=>
  intro q hq
  simp only[List.zip_cons_cons,List.mem_cons]at hq
  rcases hq with rfl | hq
  ·cases n <;> simp[Instr.sameBits]
  ·exact ih q hq
 |str s sh vs xs h ih=>
  intro q hq
  simp only[List.zip_cons_cons,List.mem_cons]at hq
  rcases hq with rfl | hq
  ·cases n <;> simp[Instr.sameBits,beq_bytes_iff]
  ·exact ih q hq
theorem checkKey_str {kt:Nat}(hd:P.underlying kt=some .string) (em:Bool) (n:Nat) (b:ByteArray) (w:World):(Instr.checkKey em (n+1) kt (.string b)).run P w=.ok () w:=by simp[Instr.checkKey,run_underlying hd]
theorem checkKey_int {kt:Nat}{k0:IntKind}(hd:P.underlying kt=some (.int k0)) (em:Bool) (n:Nat) (k:IntKind) (b:Int) (w:World):(Instr.checkKey em (n+1) kt (.int k b)).run P w=.ok () w:=by simp[Instr.checkKey,run_underlying hd]
theorem MapR.mem {es:List (V × V)}{l:List MapEntry}(h:MapR c es l) {m:MapEntry}(hm:m∈l):∃e∈es,IRa c.w c.imm e.1 m.key/\VR c e.2 m.val:=by
 induction h with
 |nil=>cases hm
 |cons k v es m' l hk hv hr ih=>
  rcases List.mem_cons.1 hm with rfl | hm
  ·exact⟨_,List.mem_cons_self ..,hk,hv⟩
  ·obtain⟨e,h1,h2⟩:=ih hm
   exact⟨e,List.mem_cons_of_mem _ h1,h2⟩
theorem keys_core {eq:V->V->Option Bool}{k:V}{kx:Value}(hA:∀u y,IRa c.w c.imm u y->∀b,eq k u=some b->kshape y=kshape kx/\(b=true ↔ y=kx))
  {es:List (V × V)}{l l':List MapEntry}{p:Option Nat}(hm:MapR c es l')(hp:l'.Perm l)(hsh:∀x∈l,∀y∈l,kshape x.key=kshape y.key)(h:apos eq k es 0=some p) :
  (∀m∈l,kshape m.key=kshape kx)/\(p=none->∀m∈l,m.key≠kx)/\∀j,p=some j->∃m,l'[j]?=some m/\m∈l/\m.key=kx:=by
 refine⟨?_,?_,?_⟩
 ·cases hm with
  |nil=>
   intro m hm
   have:=hp.mem_iff.2 hm
   cases this
  |cons k' v es e l'' hk hv hr=>
   obtain⟨b,hb⟩:=apos_head h
   have h0:=(hA _ _ hk _ hb).1
   intro m hm
   rw[<- h0]
   exact hsh m hm e (hp.mem_iff.1 (List.mem_cons_self ..))
 ·rintro rfl m hml e
  obtain⟨x,hx,h1,_⟩:=hm.mem (hp.mem_iff.2 hml)
  have:=(hA _ _ h1 _ (apos_none h x hx)).2.2 e
  cases this
 ·rintro j rfl
  obtain⟨x,hx,h1⟩:=apos_some h
  simp only[Nat.sub_zero]at hx
  obtain⟨m,hm1,hm2,_⟩:=hm.get hx
  exact⟨m,hm1,hp.mem_iff.1 (List.mem_of_getElem? hm1),(hA _ _ hm2 _ h1).2.1 rfl⟩
theorem kshape1_bool {y:Value}(h:kshape1 y=1):∃b,y=.bool b:=by
 cases y <;> simp only[kshape1]at h <;> first | exact⟨_,rfl⟩ | (cases h;done) | (split at h <;> cases h)
theorem kshape1_str {y:Value}(h:kshape1 y=20):∃b,y=.string b:=by
 cases y <;> simp only[kshape1]at h <;> first | exact⟨_,rfl⟩ | (cases h;done) | (split at h <;> cases h)
theorem kshape1_int {y:Value}{k:IntKind}{n:Int}(h:kshape1 y=kshape1 (.int k n)):∃m,y=.int k m:=by
 cases y with
 |int k' m=>
  refine⟨m,?_⟩
  have:k'=k:=by cases k <;> cases k' <;> first | rfl | (simp[kshape1]at h)
  rw[this]
 |_=>cases k <;> simp[kshape1]at h
theorem kshape1_lt (y:Value):kshape1 y<99:=by
 cases y <;> simp only[kshape1] <;> first | omega | (split <;> omega)
theorem kshape_one {y:Value}{n:Nat}(h:kshape y=[n])(hn:n<99):kshape1 y=n:=by
 unfold kshape at h
 split at h
 ·injection h with h1;omega
 ·injection h with h1
theorem kshape_agg {y:Value}{xs:List Value}(h:kshape y=kshape (.agg xs.toArray)):∃ys:List Value,y=.agg ys.toArray/\ys.map kshape1=xs.map kshape1:=by
 unfold kshape at h
 split at h
 ·rename_i a
  refine⟨a.toList,by simp,?_⟩
  injection h with _ h
 ·rename_i v hv
  injection h with h1
  have:=kshape1_lt y
  omega
theorem Sc.total {sh:List Kd}{as:List V}{xs:List Value}(h:Sc sh as xs):∀{ys:List Value},ys.map kshape1=xs.map kshape1->∃bs,Sc sh bs ys:=by
 induction h with
 |nil=>intro ys hy;simp at hy;subst hy;exact⟨[],.nil⟩
 |bool b sh vs xs h ih=>
  intro ys hy
  cases ys with
  |nil=>simp at hy
  |cons y ys=>
   simp only[List.map_cons,List.cons.injEq]at hy
   obtain⟨b',rfl⟩:=kshape1_bool (y:=y) (by rw[hy.1];rfl)
   obtain⟨bs,hb⟩:=ih hy.2
   exact⟨_,.bool b' _ _ _ hb⟩
 |int k n sh vs xs h ih=>
  intro ys hy
  cases ys with
  |nil=>simp at hy
  |cons y ys=>
   simp only[List.map_cons,List.cons.injEq]at hy
   obtain⟨b',rfl⟩:=kshape1_int hy.1
   obtain⟨bs,hb⟩:=ih hy.2
   exact⟨_,.int k b' _ _ _ hb⟩
 |str s sh vs xs h ih=>
  intro ys hy
  cases ys with
  |nil=>simp at hy
  |cons y ys=>
   simp only[List.map_cons,List.cons.injEq]at hy
   obtain⟨b',rfl⟩:=kshape1_str (y:=y) (by rw[hy.1];rfl)
   obtain⟨bs,hb⟩:=ih hy.2
   exact⟨_,.str b' _ _ _ hb⟩
theorem Sc.eqs {sh:List Kd}{as bs:List V}{xs ys:List Value}(h1:Sc sh as xs)(h2:Sc sh bs ys):∃b,Ax.eqs sh as bs=some b/\(b=true ↔ ys=xs):=by
 induction h1 generalizing bs ys with
 |nil=>cases h2;exact⟨true,rfl,by simp⟩
 |bool b sh vs xs h1 ih=>
  cases h2 with | bool b' _ vs' xs' h2=>
  obtain⟨q,hq,hi⟩:=ih h2
  refine⟨(b==b'&&q),by simp only[Ax.eqs,hq],?_⟩
  simp only[Bool.and_eq_true,beq_iff_eq,hi,List.cons.injEq,Value.bool.injEq]
  constructor
  ·rintro⟨rfl,rfl⟩;exact⟨rfl,rfl⟩
  ·rintro⟨rfl,rfl⟩;exact⟨rfl,rfl⟩
 |int k n sh vs xs h1 ih=>
  cases h2 with | int _ n' _ vs' xs' h2=>
  obtain⟨q,hq,hi⟩:=ih h2
  refine⟨(decide (n=n')&&q),by simp only[Ax.eqs,hq,and_self,if_true],?_⟩
  simp only[Bool.and_eq_true,decide_eq_true_eq,hi,List.cons.injEq,Value.int.injEq,true_and]
  constructor
  ·rintro⟨rfl,rfl⟩;exact⟨rfl,rfl⟩
  ·rintro⟨rfl,rfl⟩;exact⟨rfl,rfl⟩
 |str s sh vs xs h1 ih=>
  cases h2 with | str s' _ vs' xs' h2=>
  obtain⟨q,hq,hi⟩:=ih h2
  refine⟨(seq (bytes s) (bytes s')&&q),by simp only[Ax.eqs,hq],?_⟩
  simp only[Bool.and_eq_true,seq_eq,decide_eq_true_eq,hi,List.cons.injEq,Value.string.injEq]
  constructor
  ·rintro⟨h,rfl⟩;exact⟨(bytes_inj h).symm,rfl⟩
  ·rintro⟨rfl,rfl⟩;exact⟨rfl,rfl⟩
theorem findKey_sound (he:EnvOk P E) {kt:Nat}{k:V}{kx:Value}(hk:VR c k kx)(hok:keyOk E kt k=true) {es:List (V × V)}{l l':List MapEntry}{p:Option Nat}(hm:MapR c es l')(hp:l'.Perm l)
  (hnd:(l.map (·.key)).Nodup)(hsh:∀x∈l,∀y∈l,kshape x.key=kshape y.key)(h:apos (eqKey E kt) k es 0=some p) :
  ∃q,(Instr.findKey kt kx l).run P c.w=.ok q c.w/\(∀em,(Instr.checkKey em 10000 kt kx).run P c.w=.ok () c.w)/\IRa c.w c.imm k kx/\Instr.sameBits 10000 kx kx=true/\(∀m∈l,kshape m.key=kshape kx) /\
   (p=none->q=none/\∀m∈l,m.key≠kx)/\∀j,p=some j->∃m j',l'[j]?=some m/\l[j']?=some m/\m.key=kx/\q=some (j',m.val):=by
 unfold keyOk at hok
 split at hok
 ·
  rename_i _ _ _ s hty
  obtain⟨d,hd,hkd⟩:=(he.ty kt _ hty).kd
  simp only[KdR]at hkd;subst hkd
  obtain⟨b,rfl,rfl⟩:=hk.str_inv
  have hA:∀u y,IRa c.w c.imm u y->∀b',eqKey E kt (.str (bytes b)) u=some b'->kshape y=kshape (.string b)/\(b'=true ↔ y=.string b):=by
   intro u y hu b' hb
   unfold eqKey at hb
   rw[hty]at hb
   simp only at hb
   split at hb
   ·rename_i a1 a2 h1
    injection h1 with h1
    subst h1
    obtain⟨b2,rfl,rfl⟩:=hu.vr.str_inv
    injection hb with hb
    refine⟨rfl,?_⟩
    rw[<- hb,<- beq_bytes,beq_bytes_iff]
    exact⟨λe=>by rw[e],λe=>by injection e with e;exact e.symm⟩
   ·cases hb
  obtain⟨hS,hN,hJ⟩:=keys_core hA hm hp hsh h
  have hB:∀m∈l,∃b',Instr.sameNow .string (.string b) m.key=some b'/\(b'=true ↔ m.key=.string b):=by
   intro m hml
   obtain⟨b2,e⟩:=kshape1_str (kshape_one (n:=20) (hS m hml) (by omega))
   rw[e]
   exact⟨_,rfl,by rw[beq_bytes_iff];exact⟨λe=>by rw[e],λe=>by injection e with e;exact e.symm⟩⟩
  have run:∀q,Instr.findNow .string (.string b) l 0=some q->(Instr.findKey kt (.string b) l).run P c.w=.ok q c.w:=by
   intro q hq
   simp only[Instr.findKey,Sem.run_bind,run_underlying hd,Result.andThen_ok,hq]
   rfl
  have hsb:Instr.sameBits 10000 (.string b) (.string b)=true:=by
   show Instr.sameBits (9999+1) _ _=true
   simp[Instr.sameBits,beq_bytes_iff]
  cases p with
  |none=>
   refine⟨none,run _ (findNow_none 0 λm hml=>?_),λem=>checkKey_str hd em 9999 b _,.one (.str _),hsb,hS,(λ_=>⟨rfl,hN rfl⟩),(λj e=>by cases e)⟩
   obtain⟨b',h1,h2⟩:=hB m hml
   cases b' with
   |false=>exact h1
   |true=>exact absurd (h2.1 rfl) (hN rfl m hml)
  |some j=>
   obtain⟨m,h1,h2,h3⟩:=hJ j rfl
   obtain⟨j',g1,g2⟩:=findNow_some 0 hB hnd h2 h3
   refine⟨_,run _ g2,λem=>checkKey_str hd em 9999 b _,.one (.str _),hsb,hS,(λe=>by cases e),λj2 e=>?_⟩
   injection e with e;subst e
   exact⟨m,j',h1,g1,h3,by rw[Nat.zero_add]⟩
 ·rename_i k0 _ _ _ k' n hty
  obtain⟨d,hd,hkd⟩:=(he.ty kt _ hty).kd
  simp only[KdR]at hkd;subst hkd
  have:=hk.int_inv;subst this
  have hA:∀u y,IRa c.w c.imm u y->∀b',eqKey E kt (.int k' n) u=some b'->kshape y=kshape (.int k' n)/\(b'=true ↔ y=.int k' n):=by
   intro u y hu b' hb
   unfold eqKey at hb
   rw[hty]at hb
   simp only at hb
   split at hb
   ·rename_i k1 a1 k2 a2 h1
    injection h1 with h1 h1'
    subst h1 h1'
    have:=hu.vr.int_inv;subst this
    split at hb
    ·rename_i hkk
     subst hkk
     injection hb with hb
     refine⟨by simp only[kshape,kshape1],?_⟩
     rw[<- hb,decide_eq_true_eq]
     exact⟨λe=>by rw[e],λe=>by injection e with _ e;exact e.symm⟩
    ·cases hb
   ·cases hb
  obtain⟨hS,hN,hJ⟩:=keys_core hA hm hp hsh h
  have hB:∀m∈l,∃b',Instr.sameNow (.int k0) (.int k' n) m.key=some b'/\(b'=true ↔ m.key=.int k' n):=by
   intro m hml
   obtain⟨n2,e⟩:=kshape1_int (kshape_one (hS m hml) (kshape1_lt _))
   rw[e]
   refine⟨(n==n2),by simp only[Instr.sameNow,if_true],?_⟩
   rw[beq_iff_eq]
   exact⟨λe=>by rw[e],λe=>by injection e with _ e;exact e.symm⟩
  have run:∀q,Instr.findNow (.int k0) (.int k' n) l 0=some q->(Instr.findKey kt (.int k' n) l).run P c.w=.ok q c.w:=by
   intro q hq
   simp only[Instr.findKey,Sem.run_bind,run_underlying hd,Result.andThen_ok,hq]
   rfl
  have hsb:Instr.sameBits 10000 (.int k' n) (.int k' n)=true:=by
   show Instr.sameBits (9999+1) _ _=true
   simp[Instr.sameBits]
  cases p with
  |none=>
   refine⟨none,run _ (findNow_none 0 λm hml=>?_),λem=>checkKey_int hd em 9999 _ _ _,.one (.int _ _),hsb,hS,(λ_=>⟨rfl,hN rfl⟩),(λj e=>by cases e)⟩
   obtain⟨b',h1,h2⟩:=hB m hml
   cases b' with
   |false=>exact h1
   |true=>exact absurd (h2.1 rfl) (hN rfl m hml)
  |some j=>
   obtain⟨m,h1,h2,h3⟩:=hJ j rfl
   obtain⟨j',g1,g2⟩:=findNow_some 0 hB hnd h2 h3
   refine⟨_,run _ g2,λem=>checkKey_int hd em 9999 _ _ _,.one (.int _ _),hsb,hS,(λe=>by cases e),λj2 e=>?_⟩
   injection e with e;subst e
   exact⟨m,j',h1,g1,h3,by rw[Nat.zero_add]⟩
 ·rename_i _ _ _ fs a hty
  split at hok
  ·rename_i sh hsh'
   have ho:=he.eqs kt sh hsh'
   obtain⟨xs,rfl,hxs⟩:=hk.agg_inv
   obtain⟨b0,hb0⟩:=Option.isSome_iff_exists.1 hok
   have hsc:=(eqs_sc hb0 hxs hxs).1
   obtain⟨fa,hd⟩:=ho.strct
   have inj:∀ys:List Value,(Value.agg ys.toArray=.agg xs.toArray ↔ ys=xs):=λys=>⟨λe=>by injection e with e;simpa using congrArg Array.toList e,λe=>by rw[e]⟩
   have hA:∀u y,IRa c.w c.imm u y->∀b',eqKey E kt (.agg a) u=some b'->kshape y=kshape (.agg xs.toArray)/\(b'=true ↔ y=.agg xs.toArray):=by
    intro u y hu b' hb
    unfold eqKey at hb
    rw[hty]at hb
    simp only[hsh']at hb
    split at hb
    ·rename_i sh' a1 a2 h0 h1
     injection h1 with h1;injection h0 with h0
     subst h1 h0
     obtain⟨ys,rfl,hys⟩:=hu.vr.agg_inv
     have h2:=(eqs_sc hb hxs hys).2
     obtain⟨b2,h3,h4⟩:=Sc.eqs hsc h2
     rw[h3]at hb
     injection hb with hb;subst hb
     refine⟨?_,by rw[h4,inj]⟩
     have:∀{sh:List Kd}{as bs:List V}{xs ys:List Value},Sc sh as xs->Sc sh bs ys->ys.map kshape1=xs.map kshape1:=by
      intro sh as bs xs ys h1
      induction h1 generalizing bs ys with
      |nil=>intro h2;cases h2;rfl
      |bool b sh vs xs h1 ih=>intro h2;cases h2 with | bool b' _ vs' xs' h2=>simp[ih h2,kshape1]
      |int k n sh vs xs h1 ih=>intro h2;cases h2 with | int _ n' _ vs' xs' h2=>simp only[List.map_cons,ih h2,kshape1]
      |str s sh vs xs h1 ih=>intro h2;cases h2 with | str s' _ vs' xs' h2=>simp[ih h2,kshape1]
     show 99::_=99::_
     rw[this hsc h2]
    ·cases hb
   obtain⟨hS,hN,hJ⟩:=keys_core hA hm hp hsh h
   have hB:∀m∈l,∃b',(Op.equal kt (.agg xs.toArray) m.key).run P c.w=.ok b' c.w/\(b'=true ↔ m.key=.agg xs.toArray):=by
    intro m hml
    obtain⟨ys,e,hys⟩:=kshape_agg (hS m hml)
    obtain⟨bs,hbs⟩:=hsc.total hys
    obtain⟨b2,h3,h4⟩:=Sc.eqs hsc hbs
    rw[e]
    exact⟨b2,ho.eq _ _ _ _ _ _ h3 hsc hbs,by rw[h4,inj]⟩
   have run:∀q,(Instr.findAsking kt (.agg xs.toArray) l 0).run P c.w=.ok q c.w->l≠[]->(Instr.findKey kt (.agg xs.toArray) l).run P c.w=.ok q c.w:=by
    intro q hq hl
    cases l with
    |nil=>exact absurd rfl hl
    |cons e l=>
     simp only[Instr.findKey,Sem.run_bind,run_underlying hd,Result.andThen_ok,Instr.findNow,Instr.sameNow,hq]
   have hsb:Instr.sameBits 10000 (.agg xs.toArray) (.agg xs.toArray)=true:=by
    show Instr.sameBits (9999+1) _ _=true
    simp only[Instr.sameBits,beq_self_eq_true,Bool.true_and,List.all_eq_true]
    intro q hq
    exact Sc.same hsc 9999 q hq
   cases p with
   |none=>
    refine⟨none,?_,λem=>ho.key _ _ _ _ hsc,.agg _ _ (Sc.irs hsc),hsb,hS,(λ_=>⟨rfl,hN rfl⟩),(λj e=>by cases e)⟩
    by_cases hl:l=[]
    ·subst hl
     simp[Instr.findKey,run_underlying hd,Instr.findNow]
    ·refine run _ (findAsking_none 0 λm hml=>?_) hl
     obtain⟨b',h1,h2⟩:=hB m hml
     cases b' with
     |false=>exact h1
     |true=>exact absurd (h2.1 rfl) (hN rfl m hml)
   |some j=>
    obtain⟨m,h1,h2,h3⟩:=hJ j rfl
    obtain⟨j',g1,g2⟩:=findAsking_some 0 hB hnd h2 h3
    refine⟨_,run _ g2 (by rintro rfl;cases h2),λem=>ho.key _ _ _ _ hsc,.agg _ _ (Sc.irs hsc),hsb,hS,(λe=>by cases e),λj2 e=>?_⟩
    injection e with e;subst e
    exact⟨m,j',h1,g1,h3,by rw[Nat.zero_add]⟩
  ·cases hok
 ·cases hok
theorem entries_sound (hs:SR E c) {v:V}{x:Value}{es:List (V × V)}(hv:VR c v x)(h:entriesOf c.Z v=some es) :
  ∃l':List MapEntry,MapR c es l'/\((x=.map none/\l'=[])\/∃r en clock,x=.map (some r)/\c.w.heap[r]?=some (.map en clock)/\MOk en clock/\l'.Perm en.toList):=by
 unfold entriesOf at h
 split at h
 ·injection h with h;subst h
  exact⟨[],.nil,.inl ⟨hv.nilm_inv,rfl⟩⟩
 ·injection h with h;subst h
  obtain⟨blk,en,cl,l,rfl,hi,hh,ho,hp,hm⟩:=hv.imp_inv
  exact⟨l,hm.mapR,.inr ⟨blk,en,cl,rfl,hh,ho,hp⟩⟩
 ·rename_i b
  split at h
  ·rename_i es' hob
   injection h with h;subst h
   obtain⟨rfl,hb⟩:=hv.mp_inv
   obtain⟨en,cl,h1,ho,l,hp,h2⟩:=hs.obj b _ hob
   exact⟨l,h2,.inr ⟨_,en,cl,rfl,h1,ho,hp⟩⟩
  ·cases h
 ·cases h
theorem run_getObj_map {w:World}{r:Nat}{l:Array MapEntry}{cl:Nat}(h:w.heap[r]?=some (.map l cl)):(getObj r).run P w=.ok (.map l cl) w:=by
 simp[getObj,Sem.run,h]
theorem lookup_sound (he:EnvOk P E)(hs:SR E c) {t:Nat}{xv kv v:V}{x k:Value}{ok:Bool}(h:lookup E c.Z t xv kv ok=some v)(hx:VR c xv x)(hk:VR c kv k) :
  ∃y,(Instr.lookup t x k ok).run P c.w=.ok y c.w/\VR c v y:=by
 unfold lookup at h
 split at h
 case h_2=>cases h
 rename_i kt e _ _ _ hty
 split at h
 ·cases h
 rename_i hok
 simp only[Bool.not_eq_true',Bool.not_eq_false]at hok
 split at h
 ·cases h
 rename_i ei hei
 split at h
 ·cases h
 rename_i es hes
 split at h
 ·cases h
 rename_i r hr
 injection h with h
 obtain⟨d,hd,hkd⟩:=(he.ty t _ hty).kd
 simp only[KdR]at hkd;subst hkd
 obtain⟨l',hm,hl⟩:=entries_sound hs hx hes
 obtain⟨p,hp,hrp⟩:=mfind_apos 0 hr
 obtain⟨z,hz,hz1,_⟩:=(he.ty e ei hei).zero
 obtain⟨l,hpm,hnd,hsh,hl⟩:∃l:List MapEntry,l'.Perm l/\(l.map (·.key)).Nodup/\(∀x∈l,∀y∈l,kshape x.key=kshape y.key) /\
   ((x=.map none/\l=[])\/∃r clock,x=.map (some r)/\c.w.heap[r]?=some (.map l.toArray clock)):=by
  rcases hl with⟨rfl,rfl⟩ | ⟨r',en,cl,rfl,hh,ho,hpm⟩
  ·exact⟨[],.nil,by simp,by simp,.inl ⟨rfl,rfl⟩⟩
  ·exact⟨en.toList,hpm,ho.st.2.2,ho.shape,.inr ⟨r',cl,rfl,by simpa using hh⟩⟩
 obtain⟨q,hq,hck,_,_,_,hN,hJ⟩:=findKey_sound he hk hok hm hpm hnd hsh hp
 have run:(Instr.lookup t x k ok).run P c.w=.ok (if ok=true then .tuple #[(q.map (·.2)).getD z,.bool q.isSome] else (q.map (·.2)).getD z) c.w:=by
  unfold Instr.lookup
  simp only[Sem.run_bind,run_underlying hd,Result.andThen_ok]
  rcases hl with⟨rfl,rfl⟩ | ⟨r',cl,rfl,hh⟩
  ·simp only[Sem.run_bind,Sem.run_pure,Result.andThen_ok,hck]
   rw[hq]
   cases q <;> cases ok <;> simp[hz]
  ·simp only[Sem.run_bind,run_getObj_map hh,Sem.run_pure,Result.andThen_ok,hck]
   rw[hq]
   cases q <;> cases ok <;> simp[hz]
 refine⟨_,run,?_⟩
 have fin:∀(u:V) (b:Bool),VR c u ((q.map (·.2)).getD z)->v=(if ok=true then V.tup [u,.bool b] else u)->b=q.isSome->VR c v (if ok=true then .tuple #[(q.map (·.2)).getD z,.bool q.isSome] else (q.map (·.2)).getD z):=by
  rintro u b hu rfl rfl
  cases ok
  ·simpa using hu
  ·simpa using VR.tup [u,.bool q.isSome] [_,.bool q.isSome] (.cons _ _ _ _ hu (.cons _ _ _ _ (.inl (.bool _)) .nil))
 cases p with
 |none=>
  obtain⟨rfl,_⟩:=hN rfl
  subst hrp;exact fin ei.zero false (hz1 _ _).vr h.symm rfl
 |some j=>
  obtain⟨m,j',g1,g2,g3,rfl⟩:=hJ j rfl
  simp only[Option.bind_some,Nat.sub_zero]at hrp
  have hlt:=(apos_le hp).2
  have hlt':j<es.length:=by omega
  obtain⟨m',hm1,hm2,hm3⟩:=hm.get (n:=j) (e:=es[j]) (by simp[hlt'])
  have em:m'=m:=by rw[g1]at hm1;exact (Option.some.inj hm1).symm
  subst em
  have:r=some es[j].2:=by rw[hrp];simp[hlt']
  subst this
  exact fin es[j].2 true (by simpa using hm3) h.symm rfl
theorem perm_set {l l':List MapEntry}(hp:l'.Perm l) {j j':Nat}{m:MapEntry}(h1:l'[j]?=some m)(h2:l[j']?=some m) (m':MapEntry):(l'.set j m').Perm (l.set j' m'):=by
 have part:∀{l:List MapEntry}{j:Nat},l[j]?=some m->∃a b,l=a++m::b/\l.set j m'=a++m'::b:=by
  intro l
  induction l with
  |nil=>intro j h;simp at h
  |cons x l ih=>
   intro j h
   cases j with
   |zero=>simp at h;subst h;exact⟨[],l,rfl,rfl⟩
   |succ j=>
    obtain⟨a,b,e1,e2⟩:=ih (j:=j) (by simpa using h)
    exact⟨x::a,b,by rw[e1];rfl,by rw[List.set_cons_succ,e2];rfl⟩
 obtain⟨a,b,rfl,e2⟩:=part h1
 obtain⟨a',b',rfl,e2'⟩:=part h2
 rw[e2,e2']
 have k:(a++b).Perm (a'++b'):=by
  have:=List.perm_middle.symm.trans (hp.trans List.perm_middle)
  exact (List.perm_cons m).1 this
 exact List.perm_middle.trans ((List.Perm.cons m' k).trans List.perm_middle.symm)
theorem mapUpdate_sound (he:EnvOk P E)(hs:SR E c) {t:Nat}{xv kv v:V}{x k y:Value}{σ':Sg}(h:mapUpdate E c.Z t xv kv v=some σ')(hx:VR c xv x)(hk:VR c kv k)(hv:VR c v y) :
  ∃c',(Instr.mapUpdate t x k y).run P c.w=.ok () c'.w/\c'.Z=σ'/\Ext c c'/\SR E c':=by
 unfold mapUpdate at h
 split at h
 case h_2=>cases h
 rename_i kt e _ _ _ b hty
 split at h
 ·cases h
 rename_i hok
 simp only[Bool.or_eq_true,Bool.not_eq_true',not_or,Bool.not_eq_false]at hok
 split at h
 case h_2=>cases h
 rename_i es hob
 cases hmp:mput (eqKey E kt) kv v es with
 |none=>rw[hmp]at h;cases h
 |some es'=>
 rw[hmp]at h;injection h with h;subst h
 obtain⟨d,hd,hkd⟩:=(he.ty t _ hty).kd
 simp only[KdR]at hkd;subst hkd
 obtain⟨rfl,hb⟩:=hx.mp_inv
 obtain⟨en,cl,h1,ho,l',hpm,h2⟩:=hs.obj b _ hob
 have hlv:live c.Z b:=⟨_,hob,rfl⟩
 obtain⟨p,hp,hes',hsm⟩:=mput_apos 0 hmp
 obtain⟨q,hq,hck,hki,hsb,hS,hN,hJ⟩:=findKey_sound he hk hok.1 h2 hpm ho.st.2.2 ho.shape hp
 have hput:∀(en':Array MapEntry) (cl':Nat) (l2:List MapEntry),MOk en' cl'->l2.Perm en'.toList->MapR c es' l2->∃c',(setObj (c.blk b) (.map en' cl')).run P c.w=.ok () c'.w/\c'.Z=c.Z.set b (.map es')/\Ext c c'/\SR E c':=by
  intro en' cl' l2 ho' hp' hm
  have hext:=Cx.put_ext hlv (.map en' cl') (.map es')
  refine⟨c.put b (.map en' cl') (.map es'),?_,rfl,hext,Cx.put_sr hs hlv _ _ ⟨en',cl',?_,ho',l2,hp',hm.mono hext⟩⟩
  ·simp[setObj,Sem.run,h1,Cx.put]
  ·have:=heap_lt h1
   simp[Cx.put,this]
 unfold Instr.mapUpdate
 simp only[Sem.run_bind,run_underlying hd,Result.andThen_ok,run_getObj_map h1,hck,hq]
 cases p with
 |none=>
  obtain⟨rfl,hne⟩:=hN rfl
  simp only
  refine hput _ _ (l'++[{ key:=k,val:=y,born:=cl }]) ⟨MapKept.stamped_push ho.st hne,?_⟩ ?_ (by simpa [hes']using h2.snoc (m:={ key:=k,val:=y,born:=cl }) hki hv)
  ·have hx:∀z∈(en.push { key:=k,val:=y,born:=cl }).toList,kshape z.key=kshape k:=by
    intro z hz
    simp only[Array.toList_push,List.mem_append,List.mem_singleton]at hz
    rcases hz with hz | rfl
    ·exact hS z hz
    ·rfl
   intro z hz z' hz'
   rw[hx z hz,hx z' hz']
  ·rw[Array.toList_push]
   exact hpm.append_right _
 |some j=>
  obtain⟨m,j',g1,g2,g3,rfl⟩:=hJ j rfl
  simp only[Nat.sub_zero]at hes' hsm
  obtain⟨u,hu1,hu2⟩:=hsm j rfl
  obtain⟨m',hm1,hm2,hm3⟩:=h2.get hu1
  have em:m'=m:=by rw[g1]at hm1;exact (Option.some.inj hm1).symm
  subst em
  have hm1':en[j']?=some m':=by simpa using g2
  have hlt:j'<en.size:=by
   rcases Nat.lt_or_ge j' en.size with g | g
   ·exact g
   ·rw[Array.getElem?_eq_none g]at hm1';cases hm1'
  simp only[hm1',Option.map_some,Option.getD_some,Instr.keyThatStays,g3,hsb,if_true,Sem.run_pure,Sem.run_bind,Result.andThen_ok]
  have e:(en.modify j' λe=>{ e with key:=k,val:=y }).toList=en.toList.set j' { m' with key:=k,val:=y }:=by
   apply List.ext_getElem?
   intro n
   by_cases hn:j'=n
   ·subst hn
    have:en[j']=m':=by rw[Array.getElem?_eq_getElem hlt]at hm1';exact Option.some.inj hm1'
    simp[hlt,this]
   ·simp[Array.getElem?_modify,hn,List.getElem?_set_ne hn]
  refine hput _ _ (l'.set j { m' with key:=k,val:=y }) ⟨MapKept.stamped_modify ho.st j' _ (λ_ _=>rfl) (λx hx hj=>?_),?_⟩ ?_ ?_
  ·rw[hm1']at hj
   rw[<- Option.some.inj hj,g3]
  ·intro z hz z' hz'
   rw[e]at hz hz'
   have hx:∀z∈en.toList.set j' { m' with key:=k,val:=y },kshape z.key=kshape k:=by
    intro z hz
    rcases List.mem_or_eq_of_mem_set hz with hz | rfl
    ·exact hS z hz
    ·rfl
   rw[hx z hz,hx z' hz']
  ·rw[e]
   exact perm_set hpm g1 g2 _
  ·rw[hes']
   exact h2.set (m:={ m' with key:=k,val:=y }) hki hv j
theorem indexAddr_sound (he:EnvOk P E) {t:Nat}{xv iv v:V}{x i:Value}(h:indexAddr E t xv iv=some v)(hx:VR c xv x)(hi:VR c iv i) :
  ∃y,(Instr.indexAt t x i).run P c.w=.ok y c.w/\VR c v y:=by
 unfold indexAddr at h
 split at h
 case h_2=>cases h
 rename_i k n
 rw[hi.int_inv]
 split at h
 ·cases h
 rename_i hn
 split at h
 ·rename_i g xs full
  split at h
  case h_2=>cases h
  rename_i e _ _ _ hty
  split at h
  case h_2=>cases h
  rename_i ei r hei hr
  split at h
  case isFalse=>cases h
  rename_i hsz
  injection h with h;subst h
  obtain⟨d,hd,hkd⟩:=(he.ty t _ hty).kd
  simp only[KdR]at hkd;subst hkd
  obtain⟨blk,off,sp,cap,sz,rfl,hi',hc,hf,hrow⟩:=hx.isl_inv
  rcases hi' with⟨rfl,hi'⟩ | ⟨rfl,rfl⟩
  case inr=>cases hr
  obtain⟨h1,h2⟩:=hrow.get _ _ hr
  have hlt:n.toNat<xs.length:=(List.getElem?_eq_some_iff.1 hr).1
  have hsz':sz=ei.size:=by simp only[beq_iff_eq]at hsz;omega
  subst hsz'
  refine⟨.pointer (some ⟨blk,off+n.toNat*ei.size,none⟩),?_,.inl (.ipt g r blk _ hi' h2)⟩
  simp only[Instr.indexAt,Sem.run_bind,asIntOf,Sem.run_pure,Result.andThen_ok,run_underlying hd]
  rw[Sem.run_ite,if_pos (by omega)]
  simp[(he.ty e ei hei).size,Addr.add_lit]
 ·rename_i b off len cap
  split at h
  case h_2=>cases h
  rename_i e _ _ _ hty
  split at h
  case h_2=>cases h
  rename_i ei hei
  split at h
  case isFalse=>cases h
  rename_i hlt
  injection h with h;subst h
  obtain⟨d,hd,hkd⟩:=(he.ty t _ hty).kd
  simp only[KdR]at hkd;subst hkd
  obtain⟨cap',rfl,hb,_⟩:=hx.sl_inv
  refine⟨.pointer (some ⟨c.blk b,off+n.toNat*ei.size,none⟩),?_,.ref _ _ hb⟩
  simp only[Instr.indexAt,Sem.run_bind,asIntOf,Sem.run_pure,Result.andThen_ok,run_underlying hd]
  rw[Sem.run_ite,if_pos (by omega)]
  simp[(he.ty e ei hei).size,Addr.add_lit]
 ·cases h
theorem index_sound (he:EnvOk P E) {t:Nat}{xv iv v:V}{x i:Value}(h:index E t xv iv=some v)(hx:VR c xv x)(hi:VR c iv i) :
  ∃y,(Instr.index t x i).run P c.w=.ok y c.w/\VR c v y:=by
 unfold index at h
 split at h
 case h_2=>cases h
 rename_i s k n hty
 split at h
 ·cases h
 rename_i hn
 split at h
 case h_2=>cases h
 rename_i q hq
 injection h with h;subst h
 rw[hi.int_inv]
 obtain⟨b,rfl,rfl⟩:=hx.str_inv
 obtain⟨d,hd,hkd⟩:=(he.ty t _ hty).kd
 simp only[KdR]at hkd;subst hkd
 have hlt:n.toNat<b.size:=by rw[<- bytes_len];exact (List.getElem?_eq_some_iff.1 hq).1
 have hb:b[n.toNat]?=some b[n.toNat]:=ByteArray.getElem?_lt' b _ hlt
 have hv:q=(b[n.toNat]).toNat:=by
  have hq':(b.data.toList.map UInt8.toNat)[n.toNat]?=some q:=hq
  rw[List.getElem?_map,Array.getElem?_toList]at hq'
  have hlt':n.toNat<b.data.size:=hlt
  rw[Array.getElem?_eq_getElem hlt']at hq'
  simp only[Option.map_some,Option.some.injEq]at hq'
  rw[<- hq'];rfl
 refine⟨.int .u8 (b[n.toNat]).toNat,?_,by rw[hv];exact .inl (.int _ _)⟩
 have h0:0<=n:=by omega
 simp[Instr.index,asIntOf,run_underlying hd,h0,hb]
theorem fieldPlace_sound (he:EnvOk P E) {f:Field}{fi:Ty}(hfi:E.ty f.type=some fi)(hz:fi.size≠0) (b o:Nat) (w:World):(fieldPlace ⟨b,o,none⟩ f).run P w=.ok ⟨b,o+f.offset,none⟩ w:=by
 simp only[fieldPlace,Sem.run_bind,(he.ty _ _ hfi).size,Result.andThen_ok]
 rw[Sem.run_ite,if_neg hz,Addr.add_lit]
 rfl
theorem fieldAddr_sound (he:EnvOk P E) {t:Nat}{xv v:V}{x:Value}{f:Nat}(h:fieldAddr E t xv f=some v)(hx:VR c xv x) :
  ∃y,(Instr.fieldAt t x f).run P c.w=.ok y c.w/\VR c v y:=by
 unfold fieldAddr at h
 split at h
 case h_2=>cases h
 rename_i fs _ _ _ hty
 split at h
 case h_2=>cases h
 rename_i off ft hf
 split at h
 case h_2=>cases h
 rename_i fi hfi
 split at h
 ·cases h
 rename_i hz
 obtain⟨d,hd,hkd⟩:=(he.ty t _ hty).kd
 obtain⟨a,rfl,hfs⟩:=hkd
 obtain⟨fld,hfld,hfo⟩:∃fld,a[f]?=some fld/\(fld.offset,fld.type)=(off,ft):=by
  rw[<- hfs,List.getElem?_map,Array.getElem?_toList]at hf
  cases hq:a[f]? with
  |none=>rw[hq]at hf;cases hf
  |some fld=>rw[hq]at hf;exact⟨fld,rfl,Option.some.inj hf⟩
 injection hfo with h1 h2
 subst h1 h2
 split at h
 ·rename_i b o
  injection h with h;subst h
  obtain⟨rfl,hb⟩:=hx.ref_inv
  refine⟨.pointer (some ⟨c.blk b,o+fld.offset,none⟩),?_,.ref _ _ hb⟩
  simp[Instr.fieldAt,run_underlying hd,hfld,Instr.sureAddr,fieldPlace_sound he hfi hz]
 ·rename_i g cs
  injection h with h;subst h
  obtain⟨blk,o,rfl,hi',hc⟩:=hx.ipt_inv
  refine⟨.pointer (some ⟨blk,o+fld.offset,none⟩),?_,.inl (.ipt g _ blk _ hi' (hc.drop _))⟩
  simp[Instr.fieldAt,run_underlying hd,hfld,Instr.sureAddr,fieldPlace_sound he hfi hz]
 ·cases h
theorem part_sound (he:EnvOk P E) {t:Nat}{cs:List V}{xs:List Value}{off:Nat}{v:V}(h:part E t cs off=some v)(hv:VRs c cs xs):∃y,(Go.part t xs.toArray off).run P c.w=.ok y c.w/\VR c v y:=by
 unfold part at h
 split at h
 case h_2=>cases h
 rename_i i hi
 have ht:=he.ty t i hi
 unfold Go.part
 simp only[Sem.run_bind,ht.isAgg,Result.andThen_ok]
 split at h
 ·rename_i hag
  split at h
  ·rename_i hle
   injection h with h;subst h
   rw[Sem.run_ite,if_pos hag]
   refine⟨.agg (xs.toArray.extract off (off+i.size)),by simp[ht.size],?_⟩
   have:=VR.agg _ _ ((hv.drop off).take i.size)
   have e:((xs.drop off).take i.size).toArray=xs.toArray.extract off (off+i.size):=by simp[List.extract_eq_take_drop]
   rwa [e]at this
  ·cases h
 ·rename_i hag
  rw[Sem.run_ite,if_neg hag]
  obtain⟨x,hx,hr⟩:=hv.get off v h
  refine⟨x,?_,hr⟩
  have:xs.toArray[off]?=some x:=by simpa using hx
  rw[this];rfl
theorem field_sound (he:EnvOk P E) {t:Nat}{xv v:V}{x:Value}{f:Nat}(h:field E t xv f=some v)(hx:VR c xv x):∃y,(Instr.field t x f).run P c.w=.ok y c.w/\VR c v y:=by
 unfold field at h
 split at h
 case h_2=>cases h
 rename_i fs _ _ _ cs hty
 split at h
 case h_2=>cases h
 rename_i off ft hf
 obtain⟨d,hd,hkd⟩:=(he.ty t _ hty).kd
 obtain⟨a,rfl,hfs⟩:=hkd
 obtain⟨xs,rfl,hxs⟩:=hx.agg_inv
 obtain⟨fld,hfld,hfo⟩:∃fld,a[f]?=some fld/\(fld.offset,fld.type)=(off,ft):=by
  rw[<- hfs,List.getElem?_map,Array.getElem?_toList]at hf
  cases hq:a[f]? with
  |none=>rw[hq]at hf;cases hf
  |some fld=>rw[hq]at hf;exact⟨fld,rfl,Option.some.inj hf⟩
 injection hfo with h1 h2
 subst h1 h2
 obtain⟨y,hy,hvy⟩:=part_sound he h hxs
 exact⟨y,by simp only[Instr.field,Sem.run_bind,run_underlying hd,Result.andThen_ok,hfld,asAgg,Sem.run_pure,hy],hvy⟩
theorem lenOf_sound (he:EnvOk P E)(hs:SR E c) {t ty:Nat}{ats:Array Nat}(hat:ats[0]?=some t) {xv:V}{x:Value}{n:Nat}(h:lenOf E c.Z t xv=some n)(hx:VR c xv x) :
  (Builtin.len_ ats ty #[x]).run P c.w=.ok (.int .i64 n) c.w:=by
 unfold lenOf at h
 split at h
 ·cases h
 rename_i i hi
 obtain⟨d,hd,hkd⟩:=(he.ty t i hi).kd
 have e0:(#[x]:Array Value)[0]?=some x:=rfl
 unfold Builtin.len_
 rw[hat,e0]
 split at h <;> rename_i hk <;> (try rw[hk]at hkd) <;> (try simp only[KdR]at hkd) <;> (try subst hkd)
 ·injection h with h;subst h
  obtain⟨b,rfl,rfl⟩:=hx.str_inv
  simp[run_underlying hd,goInt,bytes_len]
 ·injection h with h;subst h
  rw[hx.nils_inv]
  simp[run_underlying hd,goInt]
 ·injection h with h;subst h
  obtain⟨_,_,_,_,_,rfl,_⟩:=hx.isl_inv
  simp[run_underlying hd,goInt]
 ·injection h with h;subst h
  obtain⟨_,rfl,_⟩:=hx.sl_inv
  simp[run_underlying hd,goInt]
 ·injection h with h;subst h
  rw[hx.nilm_inv]
  simp[run_underlying hd,goInt]
 ·injection h with h;subst h
  obtain⟨r,en,cl,l,rfl,_,hh,_,hp,hm⟩:=hx.imp_inv
  have:=hm.mapR.len
  have h3:=hp.length_eq
  simp only[Array.length_toList]at h3
  simp[run_underlying hd,goInt,run_getObj_map hh,this,h3]
 ·split at h
  ·rename_i es hob
   injection h with h;subst h
   obtain⟨rfl,hb⟩:=hx.mp_inv
   obtain⟨en,cl,h1,_,l,hp,h2⟩:=hs.obj _ _ hob
   have:=h2.len
   have h3:=hp.length_eq
   simp only[Array.length_toList]at h3
   simp[run_underlying hd,goInt,run_getObj_map h1,this,h3]
  ·cases h
 ·cases h
end
end
section
section
variable {P:Program}{E:Env}{c:Cx}
theorem unop_sound {op:UnOp}{v r:V}{x:Value}(h:unop op v=some r)(hv:VR c v x):∃y,(Op.unary op x).run P c.w=.ok y c.w/\VR c r y:=by
 unfold unop at h
 split at h
 ·injection h with h;subst h
  rw[hv.bool_inv]
  exact⟨_,rfl,.inl (.bool _)⟩
 ·injection h with h;subst h
  rw[hv.int_inv]
  exact⟨_,by simp only[Op.unary,Op.intArith,Sem.run_pure];rfl,by rw[wr_eq];exact .inl (.int _ _)⟩
 ·cases h
theorem ofU8_sound:∀{cs:List V}{xs:List Value}{l:List Nat},ofU8 cs=some l->VRs c cs xs->∃ns:List UInt8,l=ns.map UInt8.toNat/\xs=ns.map λn=>Value.int .u8 n.toNat
 | [],xs,l,h,hv=>by
  simp only[ofU8]at h;injection h with h;subst h
  cases hv;exact⟨[],rfl,rfl⟩
 |v::cs,xs,l,h,hv=>by
  cases hv with | cons _ x _ xs hx hr=>
  unfold ofU8 at h
  split at h
  ·rename_i heq;cases heq
  ·rename_i n r heq
   injection heq with h1 h2
   subst h1 h2
   split at h
   ·rename_i hc
    simp only[Bool.and_eq_true,decide_eq_true_eq]at hc
    split at h
    ·rename_i l' hl'
     injection h with h;subst h
     obtain⟨ns,rfl,rfl⟩:=ofU8_sound hl' hr
     have hm:n.toNat % 256=n.toNat:=Nat.mod_eq_of_lt (by omega)
     refine⟨UInt8.ofNat n.toNat::ns,by simp[hm],?_⟩
     rw[hx.int_inv]
     simp only[List.map_cons,UInt8.toNat_ofNat',Nat.reducePow,hm]
     congr 2
     omega
    ·cases h
   ·cases h
  ·cases h
theorem fold_push (ns:List UInt8):∀r:ByteArray,bytes ((ns.map λn=>(n.toNat:Int)).foldl (λr n=>r.push (UInt8.ofNat n.toNat)) r)=bytes r++ns.map UInt8.toNat:=by
 induction ns with
 |nil=>intro r;simp
 |cons n ns ih=>
  intro r
  simp only[List.map_cons,List.foldl_cons]
  rw[ih]
  have:bytes (r.push (UInt8.ofNat ((n.toNat:Int)).toNat))=bytes r++[n.toNat]:=by
   simp[bytes,ByteArray.push]
  rw[this]
  simp
theorem bytesToString_sound (hs:SR E c) {v:V}{x:Value}{cs:List V}{n:Nat}{l:List Nat}(hel:elems c.Z 1 v=some (cs,n))(hl:ofU8 cs=some l)(hv:VR c v x)(hx:∃a len cap,x=.slice (some a) len cap) :
  ∃y,(Conv.bytesToString x).run P c.w=.ok y c.w/\VR c (.str l) y:=by
 obtain⟨a,len,cap,rfl⟩:=hx
 obtain⟨xs,hxs,hxl,hfc,hlo,_⟩:=elems_sound (P:=P) hs hel hv
 obtain⟨ns,rfl,rfl⟩:=ofU8_sound hl hxs
 have hn:n=len:=by
  have:=hlo c.w
  simp only[Builtin.lenOf,Sem.run_pure]at this
  injection this with this
  exact this.symm
 subst hn
 have hload:(loadCells a n).run P c.w=.ok ((ns.map λn=>(n.toNat:Int)).map (Value.int .u8)).toArray c.w:=by
  have:=hfc c.w λ_ _=>rfl
  simp only[Builtin.firstCells,Nat.mul_one]at this
  rw[this]
  simp[Function.comp_def]
 refine⟨_,run_bytesToString c.w a n cap _ hload,?_⟩
 have:=fold_push ns ByteArray.empty
 rw[show bytes ByteArray.empty=[] from rfl,List.nil_append]at this
 rw[<- this]
 exact .inl (.str _)
theorem convert_sound (he:EnvOk P E)(hs:SR E c) {src dst:Nat}{v r:V}{x:Value}(h:convert E c.Z src dst v=some r)(hv:VR c v x) :
  ∃y,(Go.convert src dst x).run P c.w=.ok y c.w/\VR c r y:=by
 unfold convert at h
 split at h
 case h_2=>cases h
 rename_i s d hsi hdi
 obtain⟨sd,hsd,hskd⟩:=(he.ty src s hsi).kd
 obtain⟨dd,hdd,hdkd⟩:=(he.ty dst d hdi).kd
 split at h
 ·rename_i k k' n hk
  rw[hk]at hdkd;simp only[KdR]at hdkd;subst hdkd
  injection h with h;subst h
  rw[hv.int_inv]
  exact⟨_,by simp[Go.convert,run_underlying hsd,run_underlying hdd,Conv.intToInt];rfl,by rw[wr_eq];exact .inl (.int _ _)⟩
 ·rename_i l hk
  rw[hk]at hdkd;simp only[KdR]at hdkd;subst hdkd
  injection h with h;subst h
  obtain⟨b,rfl,rfl⟩:=hv.str_inv
  exact⟨.string b,by simp[Go.convert,run_underlying hsd,run_underlying hdd],.inl (.str _)⟩
 ·rename_i e b hsk hk
  rw[hk]at hdkd;simp only[KdR]at hdkd;subst hdkd
  rw[hsk]at hskd;simp only[KdR]at hskd;subst hskd
  split at h
  case h_2=>cases h
  rename_i u cs i hob hei
  split at h
  case isFalse=>cases h
  rename_i hc
  obtain⟨rfl,hl,h0⟩:=hc
  injection h with h;subst h
  obtain⟨rfl,hb⟩:=hv.ref_inv
  obtain⟨arr,g1,g2,g3,g4,g5,g6,g7⟩:=(hs.obj b _ hob).cells_inv
  obtain⟨inf,hinf,hisz,_⟩:=(he.ty u i hei).info
  have:=g5 rfl
  exact⟨_,Lib.run_to_unsafe c.w (cells:=arr.size) (e:=u) _ hsd hdd hinf (by omega) (by simp[World.shape?,g1]) (by show 0<arr.size;omega),hv⟩
 ·rename_i e b hsk hk
  rw[hk]at hdkd;simp only[KdR]at hdkd;subst hdkd
  rw[hsk]at hskd;simp only[KdR]at hskd;subst hskd
  split at h
  case h_2=>cases h
  rename_i u cs i hob hei
  split at h
  case isFalse=>cases h
  rename_i hc
  obtain⟨rfl,hl,h0,hlie⟩:=hc
  injection h with h;subst h
  obtain⟨rfl,hb⟩:=hv.ref_inv
  obtain⟨arr,g1,g2,g3,g4,g5,g6,g7⟩:=(hs.obj b _ hob).cells_inv
  obtain⟨inf,hinf,hisz,_⟩:=(he.ty u i hei).info
  have:=g5 rfl
  have hdiv:arr.size / P.cellsOf u=1:=by
   have:P.cellsOf u=i.size:=by simp[Program.cellsOf,hinf,hisz]
   rw[this,show arr.size=i.size by omega]
   exact Nat.div_self h0
  exact⟨_,Lib.run_from_unsafe c.w (cells:=arr.size) (e:=u) _ hsd hdd hinf (by simp[World.shape?,g1]) (by rw[hdiv];exact he.lie u hlie),hv⟩
 ·rename_i e hsk hk
  rw[hk]at hdkd;simp only[KdR]at hdkd;subst hdkd
  rw[hsk]at hskd;simp only[KdR]at hskd;subst hskd
  split at h
  case h_2=>cases h
  rename_i ei hei
  split at h
  case h_2=>cases h
  rename_i hek
  injection h with h;subst h
  obtain⟨ed,hed,hekd⟩:=(he.ty e ei hei).kd
  rw[hek]at hekd;simp only[KdR]at hekd;subst hekd
  rw[hv.nils_inv]
  refine⟨.string .empty,?_,.inl (.str .empty)⟩
  simp[Go.convert,run_underlying hsd,run_underlying hdd,run_underlying hed,Conv.bytesToString]
 ·rename_i e b off len cap hsk hk
  rw[hk]at hdkd;simp only[KdR]at hdkd;subst hdkd
  rw[hsk]at hskd;simp only[KdR]at hskd;subst hskd
  split at h
  case h_2=>cases h
  rename_i ei hei
  split at h
  case h_2=>cases h
  rename_i hek
  split at h
  case isFalse=>cases h
  split at h
  case h_2=>cases h
  rename_i cs n hel
  split at h
  case h_2=>cases h
  rename_i l hl
  injection h with h;subst h
  obtain⟨ed,hed,hekd⟩:=(he.ty e ei hei).kd
  rw[hek]at hekd;simp only[KdR]at hekd;subst hekd
  obtain⟨cap',hxe,_⟩:=hv.sl_inv
  obtain⟨y,hy,hr⟩:=bytesToString_sound (P:=P) hs hel hl hv ⟨_,_,_,hxe⟩
  subst hxe
  exact⟨y,by simp only[Go.convert,Sem.run_bind,run_underlying hsd,run_underlying hdd,Result.andThen_ok,run_underlying hed];exact hy,hr⟩
 ·rename_i e g xs f hsk hk
  rw[hk]at hdkd;simp only[KdR]at hdkd;subst hdkd
  rw[hsk]at hskd;simp only[KdR]at hskd;subst hskd
  split at h
  case h_2=>cases h
  rename_i ei hei
  split at h
  case h_2=>cases h
  rename_i hek
  split at h
  case isFalse=>cases h
  split at h
  case h_2=>cases h
  rename_i cs n hel
  split at h
  case h_2=>cases h
  rename_i l hl
  injection h with h;subst h
  obtain⟨ed,hed,hekd⟩:=(he.ty e ei hei).kd
  rw[hek]at hekd;simp only[KdR]at hekd;subst hekd
  obtain⟨_,_,_,_,_,hxe,_⟩:=hv.isl_inv
  obtain⟨y,hy,hr⟩:=bytesToString_sound (P:=P) hs hel hl hv ⟨_,_,_,hxe⟩
  subst hxe
  exact⟨y,by simp only[Go.convert,Sem.run_bind,run_underlying hsd,run_underlying hdd,Result.andThen_ok,run_underlying hed];exact hy,hr⟩
 ·cases h
theorem max_sound {k:IntKind}:∀{l:List V}{a:Int}{xs:List Value}{n:Int},minmax true k a l=some n->VRs c l xs->(xs.foldlM Builtin.max2 (.int k a)).run P c.w=.ok (.int k n) c.w
 | [],a,xs,n,h,hv=>by simp only[minmax]at h;injection h with h;subst h;cases hv;rfl
 |v::l,a,xs,n,h,hv=>by
  cases hv with | cons _ x _ xs hx hr=>
  unfold minmax at h
  split at h
  ·rename_i heq;cases heq
  ·rename_i k' b r _ heq
   injection heq with h1 h2
   subst h1 h2
   rw[hx.int_inv]
   simp only[List.foldlM_cons,Sem.run_bind,Builtin.max2,Sem.run_pure,Result.andThen_ok]
   exact max_sound (by simpa using h) hr
  ·cases h
theorem min_sound {k:IntKind}:∀{l:List V}{a:Int}{xs:List Value}{n:Int},minmax false k a l=some n->VRs c l xs->(xs.foldlM Builtin.min2 (.int k a)).run P c.w=.ok (.int k n) c.w
 | [],a,xs,n,h,hv=>by simp only[minmax]at h;injection h with h;subst h;cases hv;rfl
 |v::l,a,xs,n,h,hv=>by
  cases hv with | cons _ x _ xs hx hr=>
  unfold minmax at h
  split at h
  ·rename_i heq;cases heq
  ·rename_i k' b r _ heq
   injection heq with h1 h2
   subst h1 h2
   rw[hx.int_inv]
   simp only[List.foldlM_cons,Sem.run_bind,Builtin.min2,Sem.run_pure,Result.andThen_ok]
   exact min_sound (by simpa using h) hr
  ·cases h
end
end
end Go.Ax
end
