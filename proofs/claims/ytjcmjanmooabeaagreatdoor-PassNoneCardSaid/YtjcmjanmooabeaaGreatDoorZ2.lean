/- Part 2 of the proof. -/
import Derived.Test.YtjcmjanmooabeaaGreatDoorZ1
import Derived.Laws.RangeString
import Derived.Maps.RangeRun
import Derived.LoopN
set_option maxHeartbeats 8000000
set_option linter.unusedVariables false
set_option linter.unusedSimpArgs false
section
namespace Go.Ax
open Go
section
section
variable {P:Program}{E:Env}{c:Cx}
theorem cap_sound {v:V}{n:Nat}(h:capOf v=some n) {x:Value}(hx:VR c v x):∃base len,x=.slice base len n:=by
 unfold capOf at h
 split at h
 ·injection h with h;subst h
  exact⟨none,0,hx.nils_inv⟩
 ·rename_i b off len k
  injection h with h;subst h
  obtain⟨cap',rfl,_,_,hk,_⟩:=hx.sl_inv
  rw[hk k rfl]
  exact⟨_,_,rfl⟩
 ·rename_i g xs
  injection h with h;subst h
  obtain⟨blk,off,sp,cap,sz,rfl,_,_,hf,_⟩:=hx.isl_inv
  rw[hf rfl]
  exact⟨_,_,rfl⟩
 ·cases h
theorem grow_sr (hs:SR E c) {w:World}(hsz:c.w.heap.size<=w.heap.size)(hk:∀k,k<c.w.heap.size->w.heap[k]?=c.w.heap[k]?)(h1:w.os=c.w.os)(h2:w.tape=c.w.tape)(h3:w.output=c.w.output) :
  Ext c { c with w:=w }/\SR E { c with w:=w }:=by
 have he:Ext c { c with w:=w }:=⟨hsz,λk hlt ho=>⟨hk k hlt,λ⟨b,hl,hb⟩=>ho ⟨b,hl,hb⟩⟩,Nat.le_refl _,λ_ _=>rfl,λ_ _=>rfl,λ_ _=>rfl,rfl,h1,h2,h3⟩
 refine⟨he,⟨hs.inj,λb o hb=>?_,hs.anc,λk hk=>Nat.lt_of_lt_of_le (hs.ancLt k hk) hsz,gl_ext he hs.gl⟩⟩
 by_cases hl:live c.Z b
 ·exact (hs.obj b o hb).mono he (live_lt hl) (hk _ (hs.lt hl))
 ·cases o with
  |dead=>exact True.intro
  |_=>exact (hl ⟨_,hb,rfl⟩).elim
theorem singles_rows {w:World}{I:Bool->Nat->Prop}{blk:Nat}:∀(l:List Nat) (off:Nat),(∀(j:Nat) ch,l[j]?=some ch->w.cell? ⟨blk,off+j,none⟩=some (.int .u8 (ch:Int))) ->
  RowsAt w I 1 (l.map λ(ch:Nat)=>[V.int .u8 (ch:Int)]) blk off
 | [],_,_=>.nil
 |a::l,off,h=>by
  refine .cons _ _ rfl (.cons _ _ _ (by simpa using h 0 a rfl) (.int _ _) .nil) (singles_rows l (off+1) λj ch hj=>?_)
  have:=h (j+1) ch (by simpa using hj)
  rwa [show off+(j+1)=off+1+j by omega]at this
theorem strBytes_sound (he:EnvOk P E)(hs:SR E c) {s d:Nat}{a v:V}(h:strBytes E s d a=some v) {x:Value}(hx:VR c a x):GoodV E c ((Go.convert s d x).run P c.w) v c.Z:=by
 unfold strBytes at h
 split at h
 case h_2=>cases h
 rename_i l
 split at h
 case h_2=>cases h
 rename_i _ _ _ e _ _ _ hts htd
 split at h
 case h_2=>cases h
 rename_i bts zr hte
 split at h
 case isFalse=>cases h
 rename_i hle
 injection h with h;subst h
 obtain⟨ds,hds,hks⟩:=(he.ty s _ hts).kd
 obtain⟨dd,hdd,hkd⟩:=(he.ty d _ htd).kd
 obtain⟨de,hde,hke⟩:=(he.ty e _ hte).kd
 simp only[KdR]at hks hkd hke
 subst hks hkd hke
 obtain⟨b,rfl,hb⟩:=hx.str_inv
 have hsz:b.size=l.length:=by rw[<- hb];simp[bytes]
 generalize hcap:(Question.appendCap b.size 0 e).cut (c.w.tape c.w.drawn (.appendCap b.size 0 e))=cap
 have hge:b.size<=cap:=by rw[<- hcap];simp[Question.cut]
 have hfo:(Question.appendCap b.size 0 e).forced=false:=rfl
 have hrow:∃row:Array Value,row=(b.data.map λb=>Value.int .u8 b.toNat)++Array.replicate (cap-b.size) (.int .u8 0):=⟨_,rfl⟩
 obtain⟨row,hrow⟩:=hrow
 have hw2:∃w2:World,w2={ c.w with heap:=c.w.heap.push (.cells row e (row.size,row.size+1)),drawn:=c.w.drawn+1 }:=⟨_,rfl⟩
 obtain⟨w2,hw2⟩:=hw2
 have hrun:(Go.convert s d (.string b)).run P c.w=.ok (.slice (some ⟨c.w.heap.size,0,none⟩) b.size cap) w2:=by
  have hsh:({ c.w with heap:=c.w.heap.push (.cells row e (0,0)),drawn:=c.w.drawn+1 }:World).shape? c.w.heap.size=some (e,row.size):=by
   simp[World.shape?]
  have hfz:({ c.w with heap:=c.w.heap.push (.cells row e (0,0)),drawn:=c.w.drawn+1 }:World).freeze ⟨c.w.heap.size,row.size,none⟩ 1=w2:=by
   rw[hw2]
   unfold World.freeze
   rw[if_neg (by decide)]
   congr 1
   apply Array.ext_getElem?
   intro k
   simp only[Array.getElem?_modify]
   by_cases hk:c.w.heap.size=k
   ·subst hk;simp
   ·rw[if_neg hk]
    simp only[Array.getElem?_push]
    rw[if_neg (λe=>hk e.symm),if_neg (λe=>hk e.symm)]
  simp only[Go.convert,Sem.run_bind,run_underlying hds,run_underlying hdd,run_underlying hde,Result.andThen_ok,Conv.stringToBytes,run_choose,hfo,Bool.false_eq_true,if_false,hcap,newRow,run_newObj,Sem.run_pure,<- hrow,markStringish,run_shape,hsh,run_freeze,hfz]
 obtain⟨k1,k2⟩:=grow_sr hs (w:=w2) (by rw[hw2];simp) (λk hk=>by rw[hw2];simp[Array.getElem?_push,Nat.ne_of_lt hk]) (by rw[hw2]) (by rw[hw2]) (by rw[hw2])
 refine⟨{ c with w:=w2 },_,hrun,rfl,k1,k2,.inl (.isl false _ false c.w.heap.size 0 b.size cap 1 ⟨by rw[hw2];simp,λho=>?_,λ_ ha=>?_⟩ (by simp[hsz]) hge (λh=>by cases h) (singles_rows l 0 λj ch hj=>?_))⟩
 ·have:=hs.own_lt (k:=c.w.heap.size) ho
  omega
 ·have:=hs.ancLt _ ha
  omega
 ·have hj':j<b.size:=by rw[hsz];exact (List.getElem?_eq_some_iff.1 hj).1
  have h1:(bytes b)[j]?=some ch:=by rw[hb];exact hj
  have h2:b.data[j]?=some (b.data[j]'hj'):=Array.getElem?_eq_getElem hj'
  have h3:(b.data[j]'hj').toNat=ch:=by
   simp[bytes,h2]at h1;exact h1
  rw[cell_at (arr:=row) (t:=e) (fr:=(row.size,row.size+1)) (by
   show w2.heap[c.w.heap.size]?=_
   rw[hw2];simp)]
  rw[hrow,Nat.zero_add,Array.getElem?_append_left (by simpa using hj')]
  simp[h2,h3]
theorem builtin_sound (he:EnvOk P E)(hs:SR E c) {b:Builtin}{ats:Array Nat}{ty:Nat}{consts:Array Bool}{vs:List V}{xs:List Value}{r:V}{σ':Sg}(h:Ax.builtin E c.Z b ats vs=some (r,σ'))(hv:VRs c vs xs) :
  ∃(c':Cx) (y:Value),(Go.builtin b ats ty consts xs.toArray).run P c.w=.ok (.value y) c'.w/\c'.Z=σ'/\Ext c c'/\SR E c'/\VR c' r y:=by
 have lift:∀{m:Sem Value}{r:V}{σ':Sg},GoodV E c (m.run P c.w) r σ'->∃(c':Cx) (y:Value),(do pure (Next.value (<- m)):Sem Next).run P c.w=.ok (.value y) c'.w/\c'.Z=σ'/\Ext c c'/\SR E c'/\VR c' r y:=by
  rintro m r σ' ⟨c',y,h1,h2⟩
  exact⟨c',y,by simp[h1],h2⟩
 unfold Ax.builtin at h
 split at h
 ·
  rename_i xv
  cases hv with | cons _ x _ xs hx hr=>
  cases hr
  split at h
  case h_2=>cases h
  rename_i t hat
  split at h
  case h_2=>cases h
  rename_i n hn
  injection h with h;injection h with h1 h2;subst h1 h2
  exact lift (GoodV.same hs (lenOf_sound he hs hat hn hx) (.inl (.int _ _)))
 ·
  cases hv with | cons _ x _ xs hx hr=>
  cases hr with | cons _ y _ ys hy hr=>
  cases hr
  exact lift (append_sound he hs h hx hy)
 ·
  cases hv with | cons _ x _ xs hx hr=>
  cases hr
  split at h
  case h_2=>cases h
  rename_i t hat
  split at h
  case h_2=>cases h
  rename_i e _ _ _ n hty hcap
  injection h with h;injection h with h1 h2;subst h1 h2
  obtain⟨d,hd,hkd⟩:=(he.ty t _ hty).kd
  simp only[KdR]at hkd;subst hkd
  obtain⟨base,len,rfl⟩:=cap_sound hcap hx
  refine lift (m:=Builtin.cap_ ats ty _) (GoodV.same hs (x:=.int .i64 (n:Nat)) ?_ (.inl (.int _ _)))
  unfold Builtin.cap_
  rw[hat]
  simp[run_underlying hd,goInt]
 ·
  split at h
  case h_2=>cases h
  rename_i t hat
  split at h
  case h_2=>cases h
  rename_i e _ _ _ hty
  split at h
  case isFalse=>cases h
  rename_i hsome
  obtain⟨i,hei⟩:=Option.isSome_iff_exists.1 hsome
  injection h with h;injection h with h1 h2;subst h1 h2
  obtain⟨d,hd,hkd⟩:=(he.ty t _ hty).kd
  simp only[KdR]at hkd;subst hkd
  cases hv with | cons _ x _ xs hx hr=>
  cases hr with | cons _ y _ ys hy hr=>
  cases hr
  obtain⟨cap',rfl,hb,_⟩:=hx.sl_inv
  have:=hy.nils_inv;subst this
  refine lift (m:=Builtin.copy_ ats ty _) (GoodV.same hs (x:=.int .i64 0) ?_ (.inl (.int _ _)))
  unfold Builtin.copy_
  rw[hat]
  simp[run_underlying hd,goInt,Builtin.lenOf,(he.ty e i hei).size,Builtin.firstCells,storeCells]
 ·
  rename_i k a l
  split at h
  case h_2=>cases h
  rename_i n hn
  injection h with h;injection h with h1 h2;subst h1 h2
  cases hv with | cons _ x _ xs hx hr=>
  rw[hx.int_inv]
  exact lift (GoodV.same hs (by simp only[Builtin.max_];exact max_sound hn hr) (.inl (.int _ _)))
 ·
  rename_i k a l
  split at h
  case h_2=>cases h
  rename_i n hn
  injection h with h;injection h with h1 h2;subst h1 h2
  cases hv with | cons _ x _ xs hx hr=>
  rw[hx.int_inv]
  exact lift (GoodV.same hs (by simp only[Builtin.min_];exact min_sound hn hr) (.inl (.int _ _)))
 ·
  rename_i b off len cap
  split at h
  case h_2=>cases h
  rename_i t hat
  split at h
  case h_2=>cases h
  rename_i e _ _ _ hty
  split at h
  case h_2=>cases h
  rename_i i u cs ex hei hob
  cases hv with | cons _ x _ xs hx hr=>
  cases hr
  obtain⟨d,hd,hkd⟩:=(he.ty t _ hty).kd
  simp only[KdR]at hkd;subst hkd
  obtain⟨cap',rfl,hb,_⟩:=hx.sl_inv
  have e0:(#[Value.slice (some ⟨c.blk b,off,none⟩) len cap']:Array Value)[0]?=some (.slice (some ⟨c.blk b,off,none⟩) len cap'):=rfl
  split at h
  ·rename_i hl0
   subst hl0
   injection h with h;injection h with h1 h2;subst h1 h2
   refine lift (m:=Builtin.clear_ ats ty _) (GoodV.same hs (x:=.tuple #[]) ?_ (.tup [] [] .nil))
   unfold Builtin.clear_
   rw[hat]
   simp[run_underlying hd]
  ·rename_i hl0
   split at h
   case isFalse=>cases h
   rename_i hc
   simp only[Bool.and_eq_true,beq_iff_eq,decide_eq_true_eq]at hc
   obtain⟨rfl,hle⟩:=hc
   injection h with h;injection h with h1 h2;subst h1 h2
   obtain⟨z,hz,hz1,hzs⟩:=(he.ty u i hei).zero
   have hv0:VR c i.zero z:=(hz1 _ _).vr
   obtain⟨c',p1,p2,p3,p4⟩:=put_cells (P:=P) hs hob (off:=off) (reps_vrs hv0.cells len) (ok_reps (hz1 c.w c.imm).okCells len) (by rw[reps_len,(he.ty u i hei).zsize];exact hle)
   refine lift (m:=Builtin.clear_ ats ty _) ⟨c',.tuple #[],?_,p2,p3,p4,.tup [] [] .nil⟩
   unfold Builtin.clear_
   rw[hat]
   obtain⟨n,rfl⟩:∃n,len=n+1:=⟨len-1,by omega⟩
   simp only[List.getElem?_toArray,List.getElem?_cons_zero,Sem.run_bind,run_underlying hd,Result.andThen_ok,hz,zeroCells_eq,p1,Sem.run_pure]
 ·
  rename_i b off len cap
  split at h
  ·cases h
  rename_i hl0
  injection h with h;injection h with h1 h2;subst h1 h2
  cases hv with | cons _ x _ xs hx hr=>
  cases hr
  obtain⟨cap',rfl,hb,hle,_⟩:=hx.sl_inv
  exact lift (GoodV.same hs (Lib.run_unsafeSliceData_row _ _ _ _ _ _ (by omega)) (.ref _ _ hb))
 ·injection h with h;injection h with h1 h2;subst h1 h2
  cases hv with | cons _ x _ xs hx hr=>
  cases hr
  rw[hx.nils_inv]
  exact lift (GoodV.same hs (Lib.run_unsafeSliceData_nil _ _ _ _ _) (.inl .nilp))
 ·split at h
  case h_2=>cases h
  rename_i pt it hat
  injection h with h;injection h with h1 h2;subst h1 h2
  have hat':ats = #[pt,it]:=by apply Array.ext';exact hat
  subst hat'
  cases hv with | cons _ x _ xs hx hr=>
  cases hr with | cons _ y _ ys hy hr=>
  cases hr
  rw[hx.nilp_inv,hy.int_inv]
  exact lift (GoodV.same hs (Lib.run_unsafeString_none _ _ _ _ _) (.inl (.str .empty)))
 ·rename_i b n
  split at h
  case h_2=>cases h
  rename_i pt it hat
  have hat':ats = #[pt,it]:=by apply Array.ext';exact hat
  subst hat'
  split at h
  case h_2=>cases h
  rename_i e _ _ _ hty
  split at h
  case h_2=>cases h
  rename_i i u cs ex hei hob
  split at h
  case isFalse=>cases h
  rename_i hc
  obtain⟨hsz,rfl,hn0,hn1,hn2⟩:=hc
  split at h
  case h_2=>cases h
  rename_i l hl
  injection h with h;injection h with h1 h2;subst h1 h2
  cases hv with | cons _ x _ xs hx hr=>
  cases hr with | cons _ y _ ys hy hr=>
  cases hr
  obtain⟨rfl,hb⟩:=hx.ref_inv
  have:=hy.int_inv;subst this
  obtain⟨d,hd,hkd⟩:=(he.ty pt _ hty).kd
  simp only[KdR]at hkd;subst hkd
  obtain⟨arr,a1,a2,a3,a4,a5,a6,a7⟩:=(hs.obj b _ hob).cells_inv
  obtain⟨ns,rfl,hns⟩:=ofU8_sound hl (a6.take n.toNat)
  have hlen:ns.length=n.toNat:=by
   have:=congrArg List.length hns
   simp at this
   omega
  have hne:ns≠[]:=by intro e;rw[e]at hlen;simp at hlen;omega
  obtain⟨inf,hinf,hisz,_⟩:=(he.ty u i hei).info
  have hcells:P.cellsOf u=1:=by simp[Program.cellsOf,hinf,hisz,hsz]
  have hsh:c.w.shape? (c.blk b)=some (u,arr.size):=by simp[World.shape?,a1]
  have hrun:=Lib.run_unsafeString_row (P:=P) (w:=c.w) pt it ty u hd hcells (c.blk b) arr.size hsh ns hne (by omega) (by omega) (λj q hj=>by
   have hj':j<n.toNat:=by rw[<- hlen];exact (List.getElem?_eq_some_iff.1 hj).1
   rw[Addr.add_lit,Nat.zero_add,cell_at a1]
   have h3:(List.map (λn=>Value.int IntKind.u8 ↑n.toNat) ns)[j]?=some (.int .u8 q.toNat):=by simp[hj]
   rw[<- hns]at h3
   simp only[List.getElem?_take,hj',if_true]at h3
   have:j<cs.length:=by omega
   simp only[this,if_true,Array.getElem?_toList]at h3
   exact h3)
  have hnn:((ns.length:Nat):Int)=n:=by omega
  rw[hnn]at hrun
  have hk:=c.kill_ext b
  have hfr:∀k,k≠c.blk b->(c.w.freeze ⟨c.blk b,0,none⟩ ns.length).heap[k]?=c.w.heap[k]?:=by
   intro k hk
   unfold World.freeze
   split
   ·rfl
   ·simp[Array.getElem?_modify,Ne.symm hk]
  have hlv:live c.Z b:=⟨_,hob,rfl⟩
  have e2:Ext c { c with w:=c.w.freeze ⟨c.blk b,0,none⟩ ns.length,Z:=c.Z.set b .dead }:=by
   refine⟨by simp[World.freeze];split <;> simp,λk hk1 hk2=>⟨hfr k λe=>hk2 ⟨b,hlv,e.symm⟩,(hk.keep k hk1 hk2).2⟩,hk.len,hk.blk,hk.tot,hk.esz,rfl,?_,?_,?_⟩
   all_goals (unfold World.freeze;split <;> rfl)
  have hsize:(c.w.freeze ⟨c.blk b,0,none⟩ ns.length).heap.size=c.w.heap.size:=by
   unfold World.freeze;split <;> simp
  refine⟨{ c with w:=c.w.freeze ⟨c.blk b,0,none⟩ ns.length,Z:=c.Z.set b .dead },.string ⟨ns.toArray⟩,by simp[Go.builtin,hrun],rfl,e2,?_,?_⟩
  ·refine⟨λb1 b2 h1 h2 e=>hs.inj b1 b2 (live_kill h1).1 (live_kill h2).1 e,λb' o' hb'=>?_,λb' hl'=>hs.anc b' (live_kill hl').1,λk hk=>by rw[show ({ c with w:=c.w.freeze ⟨c.blk b,0,none⟩ ns.length,Z:=c.Z.set b .dead }:Cx).w.heap.size=c.w.heap.size from hsize];exact hs.ancLt k hk,gl_ext e2 hs.gl⟩
   by_cases hl':live (c.Z.set b .dead) b'
   ·have hne':=(live_kill hl').2
    have hlc:=(live_kill hl').1
    have hb2:c.Z[b']?=some o':=by rw[<- List.getElem?_set_ne (λe=>hne' e.symm)];exact hb'
    exact (hs.obj b' o' hb2).mono e2 (live_lt hlc) (hfr _ λe=>hne' (hs.inj b' b hlc hlv e))
   ·cases o' with
    |dead=>exact True.intro
    |_=>exact (hl' ⟨_,hb',rfl⟩).elim
  ·have:bytes ⟨ns.toArray⟩=ns.map UInt8.toNat:=by simp[bytes]
   rw[<- this]
   exact .inl (.str _)
 ·cases h
theorem evalX_sound {fr:Fr}{a:Act}(h:FR c fr a.tmps) {o:Option Operand}{v:Option V}(he:evalX fr o=some v):OR c v (o.map a.eval):=by
 cases o with
 |none=>simp only[evalX]at he;injection he with he;subst he;exact .none
 |some x=>
  simp only[evalX]at he
  cases hx:evalO fr x with
  |none=>rw[hx]at he;cases he
  |some u=>rw[hx]at he;injection he with he;subst he;exact .some _ _ (evalO_sound h hx)
def Step (E:Env) (c:Cx) (r:Result Next) (v:V) (σ':Sg):Prop:=
 ∃(c':Cx) (x:Value),(r=.ok (.value x) c'.w\/(r=.ok .skip c'.w/\x=Go.undef))/\c'.Z=σ'/\Ext c c'/\SR E c'/\VR c' v x
theorem Step.of {m:Sem Value}{v:V}{σ':Sg}(h:GoodV E c (m.run P c.w) v σ'):Step E c ((do pure (Next.value (<- m)):Sem Next).run P c.w) v σ':=by
 obtain⟨c',y,h1,h2⟩:=h
 exact⟨c',y,.inl (by simp[h1]),h2⟩
theorem Step.pure {v:V}{x:Value}(hs:SR E c)(hv:VR c v x):Step E c ((Pure.pure (Next.value x):Sem Next).run P c.w) v c.Z:=⟨c,x,.inl rfl,rfl,Ext.refl c,hs,hv⟩
theorem Step.same {m:Sem Value}{v:V}(hs:SR E c)(h:∃x,m.run P c.w=.ok x c.w/\VR c v x):Step E c ((do Pure.pure (Next.value (<- m)):Sem Next).run P c.w) v c.Z:=by
 obtain⟨x,h1,h2⟩:=h
 exact Step.of (GoodV.same hs h1 h2)
theorem Step.unit {m:Sem Unit}{σ':Sg}(h:∃c',m.run P c.w=.ok () c'.w/\c'.Z=σ'/\Ext c c'/\SR E c'):Step E c ((do m;Pure.pure Next.skip:Sem Next).run P c.w) .undef σ':=by
 obtain⟨c',h1,h2,h3,h4⟩:=h
 exact⟨c',Go.undef,.inr ⟨by simp[h1],rfl⟩,h2,h3,h4,.undef⟩
theorem plainOp_sound (he:EnvOk P E)(hs:SR E c) {fr:Fr}{a:Act}(hf:FR c fr a.tmps) {o:Oper}{v:V}{σ':Sg}(h:plainOp E fr c.Z o.op=some (v,σ')) :
  Step E c ((execOp a.eval o).run P c.w) v σ':=by
 obtain⟨dst,op,type,pos,after,guard⟩:=o
 simp only at h
 unfold plainOp at h
 delta oPick oAlloc oBox oBuild oBuildSlice oLoad oStore oNilCheck oBinOp oUnOp oConvert oRange oNext oEntry oMakeInterface oMakeFunc oMakeMap oMakeSlice oSlice oFieldAddr oField oIndexAddr oIndex oLookup oMapUpdate oExtract oBuiltin at h
 unfold execOp
 split at h
 ·
  rename_i x
  cases hx:evalO fr x with
  |none=>rw[hx]at h;cases h
  |some u=>
   rw[hx]at h;injection h with h;injection h with h1 h2;subst h1 h2
   exact Step.pure hs (evalO_sound hf hx)
 ·rename_i x
  cases hx:evalO fr x with
  |none=>rw[hx]at h;cases h
  |some u=>
   rw[hx]at h;injection h with h;injection h with h1 h2;subst h1 h2
   exact Step.pure hs (evalO_sound hf hx)
 ·
  rename_i cc x y
  split at h
  case h_2=>cases h
  rename_i t u w hc hx hy
  injection h with h;injection h with h1 h2;subst h1 h2
  have hcv:=(evalO_sound hf hc).bool_inv
  refine⟨c,if t=true then a.eval x else a.eval y,.inl ?_,rfl,Ext.refl c,hs,?_⟩
  ·simp only[hcv,asBool,Sem.run_bind,Sem.run_pure,Result.andThen_ok]
  ·cases t
   ·exact evalO_sound hf hy
   ·exact evalO_sound hf hx
 ·
  split at h
  case h_2=>cases h
  rename_i i hi
  injection h with h;injection h with h1 h2;subst h1 h2
  exact Step.of (alloc_sound he hs hi)
 ·
  split at h
  case h_2=>cases h
  rename_i i u hi hx
  split at h
  case isFalse=>cases h
  rename_i hc
  simp only[Bool.and_eq_true]at hc
  injection h with h;injection h with h1 h2;subst h1 h2
  exact Step.of (box_sound hs hi (evalO_sound hf hx) hc.2)
 ·
  split at h
  case h_2=>cases h
  rename_i i ps hi hps
  split at h
  case h_2=>cases h
  rename_i fs hk
  split at h
  ·cases h
  rename_i hall
  split at h
  case h_2=>cases h
  rename_i cs hcs
  injection h with h;injection h with h1 h2;subst h1 h2
  simp only[Bool.not_eq_true',Bool.not_eq_false]at hall
  refine Step.of (build_sound he hs hi hk (qs:=_) ?_ hall hcs)
  simpa using evalPs_sound hf hps
 ·
  split at h
  case h_2=>cases h
  rename_i e _ _ _ ps hi hps
  split at h
  case h_2=>cases h
  rename_i i hei
  split at h
  case isFalse=>cases h
  rename_i hle
  split at h
  case h_2=>cases h
  rename_i cs hcs
  injection h with h;injection h with h1 h2;subst h1 h2
  refine Step.of (buildSlice_sound he hs hi rfl hei (qs:=_) ?_ hle hcs)
  simpa using evalPs_sound hf hps
 ·
  split at h
  case h_2=>cases h
  rename_i u hx
  cases hl:loadAt E c.Z _ u with
  |none=>rw[hl]at h;cases h
  |some r=>
   rw[hl]at h;injection h with h;injection h with h1 h2;subst h1 h2
   exact Step.same hs (load_sound he hs hl (evalO_sound hf hx))
 ·
  split at h
  case h_2=>cases h
  rename_i u w hx hy
  cases hl:storeAt E c.Z _ u w with
  |none=>rw[hl]at h;cases h
  |some r=>
   rw[hl]at h;injection h with h;injection h with h1 h2;subst h1 h2
   exact Step.unit (store_sound he hs hl (evalO_sound hf hx) (evalO_sound hf hy))
 ·
  rename_i x
  split at h
  ·cases h
  ·cases h
  ·cases h
  ·cases h
  ·cases h
  ·rename_i u n1 n2 n3 n4 hx
   injection h with h;injection h with h1 h2;subst h1 h2
   have hr:=evalO_sound hf hx
   have key:∀y,VR c u y->Step E c ((Pure.pure (Next.value y):Sem Next).run P c.w) u c.Z:=λy hy=>Step.pure hs hy
   dsimp only
   generalize a.eval x=y at hr ⊢
   cases hr with
   |inl h=>cases h with
    |nilp=>exact (n1 rfl).elim
    |nili=>exact (n2 rfl).elim
    |nilf=>exact (n3 rfl).elim
    |_=>exact key _ (.inl (by constructor <;> assumption))
   |undef=>exact (n4 rfl).elim
   |ref b off h=>exact key _ (.ref b off h)
   |sl b off len cap cap' h hl hk ht=>exact key _ (.sl b off len cap cap' h hl hk ht)
   |mp b h=>exact key _ (.mp b h)
   |fn f a b xs ys ha hb=>exact key _ (.fn f a b xs ys ha hb)
   |agg cs xs h=>exact key _ (.agg cs xs h)
   |tup cs xs h=>exact key _ (.tup cs xs h)
   |ifc t v x h=>exact key _ (.ifc t v x h)
 ·
  split at h
  case h_2=>cases h
  rename_i u w hx hy
  split at h
  case h_2=>cases h
  rename_i r hb
  injection h with h;injection h with h1 h2;subst h1 h2
  exact Step.same hs (bin_sound he hb (evalO_sound hf hx) (evalO_sound hf hy))
 ·
  split at h
  case h_2=>cases h
  rename_i u hx
  cases hl:unop _ u with
  |none=>rw[hl]at h;cases h
  |some r=>
   rw[hl]at h;injection h with h;injection h with h1 h2;subst h1 h2
   exact Step.same hs (unop_sound hl (evalO_sound hf hx))
 ·
  split at h
  case h_2=>cases h
  rename_i u hx
  split at h
  ·rename_i v' hv'
   injection h with h;injection h with h1 h2;subst h1 h2
   exact Step.of (strBytes_sound he hs hv' (evalO_sound hf hx))
  cases hl:convert E c.Z _ _ u with
  |none=>rw[hl]at h;cases h
  |some r=>
   rw[hl]at h;injection h with h;injection h with h1 h2;subst h1 h2
   exact Step.same hs (convert_sound he hs hl (evalO_sound hf hx))
 ·
  split at h
  case h_4=>cases h
  case h_2=>
   rename_i t xo _ _ kt et _ _ _ g es hty hx
   injection h with h;injection h with h1 h2;subst h1 h2
   obtain⟨d,hd,hkd⟩:=(he.ty t _ hty).kd
   simp only[KdR]at hkd;subst hkd
   obtain⟨m,en,cl,l,hxm,hi,hh,ho,hp,hm⟩:=(evalO_sound hf hx).imp_inv
   have hb:a.eval xo=.map (some m):=hxm
   have hmlt:=heap_lt hh
   have hnew:SR E (c.alloc (.mapIter (some m) cl #[] cl) (.mit es none) 0 0):=Cx.alloc_sr hs _ _ _ _ (.inr ⟨g,m,en,cl,#[],l,by
     show (c.w.heap.push _)[if c.Z.length=c.Z.length then _ else _]?=_
     rw[if_pos rfl];simp[Cx.alloc],((Cx.alloc_ext hs _ _ _ _).wider g m hi).1,by rw[((Cx.alloc_ext hs _ _ _ _).wider g m hi).2];exact hh,ho,by rw[List.filter_eq_self.2 (λe _=>by simp)];exact hp,hm.mapR.mono (Cx.alloc_ext hs _ _ _ _),λe he=>by cases he⟩)
   have hrf:VR (c.alloc (.mapIter (some m) cl #[] cl) (.mit es none) 0 0) (.ref c.Z.length 0) (.pointer (some ⟨c.w.heap.size,0,none⟩)):=by
    have:=VR.ref (c:=c.alloc (.mapIter (some m) cl #[] cl) (.mit es none) 0 0) c.Z.length 0 (by simp[Cx.alloc])
    rwa [show (c.alloc (.mapIter (some m) cl #[] cl) (.mit es none) 0 0).blk c.Z.length=c.w.heap.size from if_pos rfl]at this
   refine Step.of ⟨_,_,?_,rfl,Cx.alloc_ext hs _ _ _ _,hnew,hrf⟩
   rw[hb]
   simp only[Instr.range,Sem.run_bind,run_underlying hd,Result.andThen_ok,run_getObj_map hh,Sem.run_pure]
   rfl
  case h_3=>
   rename_i t xo _ _ kt et _ _ _ hty hx
   injection h with h;injection h with h1 h2;subst h1 h2
   obtain⟨d,hd,hkd⟩:=(he.ty t _ hty).kd
   simp only[KdR]at hkd;subst hkd
   have hb:a.eval xo=.map none:=(evalO_sound hf hx).nilm_inv
   have hnew:SR E (c.alloc (.mapIter none 0 #[] 0) (.mit [] none) 0 0):=Cx.alloc_sr hs _ _ _ _ (.inl ⟨rfl,rfl,by
     show (c.w.heap.push _)[if c.Z.length=c.Z.length then _ else _]?=_
     rw[if_pos rfl];simp⟩)
   have hrf:VR (c.alloc (.mapIter none 0 #[] 0) (.mit [] none) 0 0) (.ref c.Z.length 0) (.pointer (some ⟨c.w.heap.size,0,none⟩)):=by
    have:=VR.ref (c:=c.alloc (.mapIter none 0 #[] 0) (.mit [] none) 0 0) c.Z.length 0 (by simp[Cx.alloc])
    rwa [show (c.alloc (.mapIter none 0 #[] 0) (.mit [] none) 0 0).blk c.Z.length=c.w.heap.size from if_pos rfl]at this
   refine Step.of ⟨_,_,?_,rfl,Cx.alloc_ext hs _ _ _ _,hnew,hrf⟩
   rw[hb]
   simp only[Instr.range,Sem.run_bind,run_underlying hd,Result.andThen_ok,Sem.run_pure]
   rfl
  rename_i t xo _ _ _ _ _ s hty hx
  injection h with h;injection h with h1 h2;subst h1 h2
  obtain⟨d,hd,hkd⟩:=(he.ty t _ hty).kd
  simp only[KdR]at hkd;subst hkd
  obtain⟨b,hb,hbs⟩:=(evalO_sound hf hx).str_inv
  have e0:(c.w.alloc (.stringIter b 0)).heap[c.w.heap.size]?=some (.stringIter b 0):=by
   show (c.w.heap.push _)[c.w.heap.size]?=_
   simp
  have hnew:SR E (c.alloc (.stringIter b 0) (.sit s 0) 0 0):=Cx.alloc_sr hs _ _ _ _ ⟨b,hbs,by
   show (c.w.alloc (.stringIter b 0)).heap[if c.Z.length=c.Z.length then _ else _]?=_
   rw[if_pos rfl];exact e0⟩
  have hrf:VR (c.alloc (.stringIter b 0) (.sit s 0) 0 0) (.ref c.Z.length 0) (.pointer (some ⟨c.w.heap.size,0,none⟩)):=by
   have:=VR.ref (c:=c.alloc (.stringIter b 0) (.sit s 0) 0 0) c.Z.length 0 (by simp[Cx.alloc])
   rwa [show (c.alloc (.stringIter b 0) (.sit s 0) 0 0).blk c.Z.length=c.w.heap.size from if_pos rfl]at this
  refine Step.of ⟨_,_,?_,rfl,Cx.alloc_ext hs _ _ _ _,hnew,hrf⟩
  rw[hb,run_range_string c.w t b hd]
  rfl
 ·
  split at h
  case h_2=>cases h
  rename_i xo b hx
  split at h
  case h_2=>cases h
  rename_i s pos hob
  obtain⟨hp,hblt⟩:=(evalO_sound hf hx).ref_inv
  obtain⟨bs,hbs,hheap⟩:=hs.obj b _ hob
  have hlv:live c.Z b:=⟨_,hob,rfl⟩
  split at h
  ·rename_i ch hch
   have hch':(bs.data.toList.map UInt8.toNat)[pos]?=some ch:=by rw[show bs.data.toList.map UInt8.toNat=s from hbs];exact hch
   have hpos:pos<bs.size:=by
    have:=(List.getElem?_eq_some_iff.1 hch').1
    simpa using this
   split at h
   case isFalse=>
    have h256:ch<256:=by
     obtain⟨u,-,hu⟩:=List.mem_map.1 (List.mem_of_getElem? hch')
     have:=UInt8.toNat_lt u
     omega
    rw[if_pos h256]at h
    injection h with h;injection h with h1 h2;subst h1 h2
    have hun:unbytes s=bs:=by
     subst hbs
     unfold unbytes bytes
     rw[List.map_map,show UInt8.ofNat ∘ UInt8.toNat=id from funext λx=>UInt8.ofNat_toNat,List.map_id]
    rw[hun]
    refine Step.of ⟨c.put b (.stringIter bs (pos+(Utf8.decode bs pos).2)) (.sit s (pos+(Utf8.decode bs pos).2)),.tuple #[.bool true,.int .i64 pos,.int .i32 (Utf8.decode bs pos).1],?_,rfl,Cx.put_ext hlv _ _,Cx.put_sr hs hlv _ _ ⟨bs,hbs,?_⟩,?_⟩
    ·rw[hp]
     simp only[Instr.next,getObj,setObj,Sem.run_bind,Sem.run,hheap,Result.andThen,hpos,if_true]
     simp[goInt,Cx.put]
    ·have:=heap_lt hheap
     simp[Cx.put,this]
    ·exact .tup _ [_,_,_] (.cons _ _ _ _ (.inl (.bool _)) (.cons _ _ _ _ (.inl (.int _ _)) (.cons _ _ _ _ (.inl (.int _ _)) .nil)))
   rename_i hlt
   injection h with h;injection h with h1 h2;subst h1 h2
   have hc:(bs[pos]'hpos).toNat=ch:=by
    have h3:bs.data[pos]?=some (bs[pos]'hpos):=Array.getElem?_eq_getElem hpos
    simpa [h3]using hch'
   refine Step.of ⟨c.put b (.stringIter bs (pos+1)) (.sit s (pos+1)),.tuple #[.bool true,.int .i64 pos,.int .i32 ch],?_,rfl,Cx.put_ext hlv _ _,Cx.put_sr hs hlv _ _ ⟨bs,hbs,?_⟩,?_⟩
   ·rw[hp]
    have hd:=decode_ascii bs pos hpos (by omega)
    simp only[Instr.next,getObj,setObj,Sem.run_bind,Sem.run,hheap,Result.andThen,hpos,if_true,hd,hc]
    simp[goInt,Cx.put,hc]
   ·have:=heap_lt hheap
    simp[Cx.put,this]
   ·exact .tup _ [_,_,_] (.cons _ _ _ _ (.inl (.bool _)) (.cons _ _ _ _ (.inl (.int _ _)) (.cons _ _ _ _ (.inl (.int _ _)) .nil)))
  ·rename_i hch
   injection h with h;injection h with h1 h2;subst h1 h2
   have hpos:¬ pos<bs.size:=λhlt=>by
    have h3:bs.data[pos]?=some (bs[pos]'hlt):=Array.getElem?_eq_getElem hlt
    have hch':(bs.data.toList.map UInt8.toNat)[pos]?=none:=by rw[show bs.data.toList.map UInt8.toNat=s from hbs];exact hch
    simp[h3]at hch'
   refine Step.same hs ⟨.tuple #[.bool false],?_,.tup _ [_] (.cons _ _ _ _ (.inl (.bool _)) .nil)⟩
   rw[hp]
   simp[Instr.next,getObj,Sem.run,hheap,hpos]
 ·
  split at h
  case h_2=>cases h
  rename_i xo b hx
  split at h
  case h_2=>cases h
  rename_i left e hob
  injection h with h;injection h with h1 h2;subst h1 h2
  obtain⟨hp,hblt⟩:=(evalO_sound hf hx).ref_inv
  rcases hs.obj b _ hob with⟨_,h0,_⟩ | ⟨g,m,en,cl,seen,l,k1,k2,k3,k4,k5,k6,k7⟩
  ·cases h0
  obtain⟨y,y1,⟨seen',rfl⟩,y3,y4⟩:=k7 e rfl
  refine Step.same hs ⟨.tuple #[y.key,y.val],?_,.tup _ [_,_] (.cons _ _ _ _ y3.vr (.cons _ _ _ _ y4 .nil))⟩
  rw[hp]
  exact run_entry_at c.w (c.blk b) m cl seen' en cl y k1 k3 y1 k4.st.2.1
 ·
  split at h
  case h_2=>cases h
  rename_i u hx
  split at h
  case h_2=>cases h
  rename_i i hi
  split at h
  ·cases h
  rename_i hni
  split at h
  ·cases h
  injection h with h;injection h with h1 h2;subst h1 h2
  refine Step.same hs ⟨_,?_,.ifc _ _ _ (evalO_sound hf hx)⟩
  obtain⟨d,hd,hkd⟩:=(he.ty _ _ hi).kd
  simp only[Instr.makeInterface,Sem.run_bind,run_underlying hd,Result.andThen_ok]
  cases hk:i.kd <;> rw[hk]at hkd <;> simp only[KdR]at hkd
  case ifc=>exact (hni hk).elim
  case strct=>obtain⟨q,rfl,_⟩:=hkd;rfl
  case func=>obtain⟨q1,q2,q3,rfl⟩:=hkd;rfl
  all_goals (subst hkd;rfl)
 ·
  split at h
  case h_2=>cases h
  rename_i f _ _ _ _ l1 l2 hx hy
  injection h with h;injection h with h1 h2;subst h1 h2
  have h1:=evalOs_sound hf hx
  have h2:=evalOs_sound hf hy
  refine Step.same hs ⟨_,rfl,?_⟩
  have:=VR.fn f l1 l2 _ _ h1 h2
  have e:∀q:Array Operand,(List.map a.eval q.toList).toArray=q.map a.eval:=λq=>by apply Array.ext';simp
  rwa [e,e]at this
 ·
  rename_i t r
  have e0:(c.w.alloc (.map #[] 0)).heap[c.w.heap.size]?=some (.map #[] 0):=by
   show (c.w.heap.push _)[c.w.heap.size]?=_
   simp
  have hnew:SR E (c.alloc (.map #[] 0) (.map []) 0 0):=Cx.alloc_sr hs _ _ _ _ ⟨#[],0,by
   show (c.w.alloc (.map #[] 0)).heap[if c.Z.length=c.Z.length then _ else _]?=_
   rw[if_pos rfl];exact e0,⟨MapKept.stamped_empty 0,by simp⟩,[],.nil,.nil⟩
  have hmp:VR (c.alloc (.map #[] 0) (.map []) 0 0) (.mp c.Z.length) (.map (some c.w.heap.size)):=by
   have:=VR.mp (c:=c.alloc (.map #[] 0) (.map []) 0 0) c.Z.length (by simp[Cx.alloc])
   rwa [show (c.alloc (.map #[] 0) (.map []) 0 0).blk c.Z.length=c.w.heap.size from if_pos rfl]at this
  have new:∀{m:Sem Value},m.run P c.w=.ok (.map (some c.w.heap.size)) (c.w.alloc (.map #[] 0))->GoodV E c (m.run P c.w) (.mp c.Z.length) (c.Z++[.map []]):=λh=>
   ⟨_,_,h,rfl,Cx.alloc_ext hs _ _ _ _,hnew,hmp⟩
  split at h
  ·rename_i hx
   injection h with h;injection h with h1 h2;subst h1 h2
   have:=evalX_sound hf hx
   refine Step.of (new ?_)
   revert this
   generalize r.map a.eval=q
   intro this
   cases this
   rfl
  ·rename_i k n hx
   split at h
   case h_2=>cases h
   rename_i kt e _ _ _ hty
   injection h with h;injection h with h1 h2;subst h1 h2
   have:=evalX_sound hf hx
   refine Step.of (new ?_)
   revert this
   generalize r.map a.eval=q
   intro this
   cases this with | some _ x hx=>?_
   obtain⟨d,hd,hkd⟩:=(he.ty t _ hty).kd
   simp only[KdR]at hkd;subst hkd
   rw[hx.int_inv]
   simp only[Instr.makeMap,Sem.run_bind,run_underlying hd,Result.andThen_ok,asInt,Sem.run_pure]
   rfl
  ·cases h
 ·
  split at h
  case h_2=>cases h
  rename_i l cc e _ _ _ k1 n k2 m hi hx hy
  split at h
  case h_2=>cases h
  rename_i i hei
  split at h
  case isFalse=>cases h
  rename_i hc
  simp only[Bool.and_eq_true,decide_eq_true_eq]at hc
  injection h with h;injection h with h1 h2;subst h1 h2
  have e1:=(evalO_sound hf hx).int_inv
  have e2:=(evalO_sound hf hy).int_inv
  dsimp only
  rw[e1,e2]
  exact Step.of (makeSlice_sound he hs hi rfl hei hc.1.1.1 hc.1.1.2 hc.1.2 hc.2)
 ·
  split at h
  case h_2=>cases h
  rename_i u l1 l2 l3 hx h1 h2 h3
  cases hl:slice E c.Z _ u l1 l2 l3 with
  |none=>rw[hl]at h;cases h
  |some r=>
   rw[hl]at h;injection h with h;injection h with g1 g2;subst g1 g2
   exact Step.same hs (slice_sound he hs hl (evalO_sound hf hx) (evalX_sound hf h1) (evalX_sound hf h2) (evalX_sound hf h3))
 ·
  split at h
  case h_2=>cases h
  rename_i u hx
  cases hl:fieldAddr E _ u _ with
  |none=>rw[hl]at h;cases h
  |some r=>
   rw[hl]at h;injection h with h;injection h with h1 h2;subst h1 h2
   exact Step.same hs (fieldAddr_sound he hl (evalO_sound hf hx))
 ·
  split at h
  case h_2=>cases h
  rename_i u hx
  cases hl:field E _ u _ with
  |none=>rw[hl]at h;cases h
  |some r=>
   rw[hl]at h;injection h with h;injection h with h1 h2;subst h1 h2
   exact Step.same hs (field_sound he hl (evalO_sound hf hx))
 ·
  split at h
  case h_2=>cases h
  rename_i u w hx hy
  cases hl:indexAddr E _ u w with
  |none=>rw[hl]at h;cases h
  |some r=>
   rw[hl]at h;injection h with h;injection h with h1 h2;subst h1 h2
   exact Step.same hs (indexAddr_sound he hl (evalO_sound hf hx) (evalO_sound hf hy))
 ·
  split at h
  case h_2=>cases h
  rename_i u w hx hy
  cases hl:index E _ u w with
  |none=>rw[hl]at h;cases h
  |some r=>
   rw[hl]at h;injection h with h;injection h with h1 h2;subst h1 h2
   exact Step.same hs (index_sound he hl (evalO_sound hf hx) (evalO_sound hf hy))
 ·
  split at h
  case h_2=>cases h
  rename_i u w hx hy
  cases hl:lookup E c.Z _ u w _ with
  |none=>rw[hl]at h;cases h
  |some r=>
   rw[hl]at h;injection h with h;injection h with h1 h2;subst h1 h2
   exact Step.same hs (lookup_sound he hs hl (evalO_sound hf hx) (evalO_sound hf hy))
 ·
  split at h
  case h_2=>cases h
  rename_i u w q hx hy hz
  cases hl:mapUpdate E c.Z _ u w q with
  |none=>rw[hl]at h;cases h
  |some r=>
   rw[hl]at h;injection h with h;injection h with h1 h2;subst h1 h2
   exact Step.unit (mapUpdate_sound he hs hl (evalO_sound hf hx) (evalO_sound hf hy) (evalO_sound hf hz))
 ·
  split at h
  case h_2=>cases h
  rename_i u w q hx hy hz
  cases hl:mapUpdate E c.Z _ u w q with
  |none=>rw[hl]at h;cases h
  |some r=>
   rw[hl]at h;injection h with h;injection h with h1 h2;subst h1 h2
   exact Step.unit (mapUpdate_sound he hs hl (evalO_sound hf hx) (evalO_sound hf hy) (evalO_sound hf hz))
 ·
  split at h
  case h_2=>cases h
  rename_i t j _ vs hx
  cases hl:vs[j]? with
  |none=>rw[hl]at h;cases h
  |some r=>
   rw[hl]at h;injection h with h;injection h with g1 g2;subst g1 g2
   obtain⟨xs,hxs,hv⟩:=(evalO_sound hf hx).tup_inv
   obtain⟨y,hy,hyv⟩:=hv.get j _ hl
   refine Step.same hs ⟨y,?_,hyv⟩
   rw[hxs]
   simp[Instr.extract,hy]
 ·
  split at h
  case h_2=>cases h
  rename_i l hl
  have hvs:=evalOs_sound hf hl
  rename_i b args ats _
  obtain⟨c',y,h1,h2⟩:=builtin_sound he hs h hvs (ty:=type) (consts:=args.map fun | .const _=>true | _=>false)
  have e:(List.map a.eval args.toList).toArray=args.map a.eval:=by apply Array.ext';simp
  rw[e]at h1
  refine⟨c',y,.inl ?_,h2⟩
  simp only[resolve,invoke,Sem.run_bind,Sem.run_pure,Result.andThen_ok]
  exact h1
 ·cases h
end
end
section
section
variable {E:Env}{c:Cx}
theorem mapO_get {α β:Type}{f:α->Option β}:∀{l:List α}{r:List β},mapO f l=some r->r.length=l.length/\∀(j:Nat) (y:β),r[j]?=some y->∃x,l[j]?=some x/\f x=some y
 | [],r,h=>by simp only[mapO]at h;injection h with h;subst h;simp
 |x::l,r,h=>by
  simp only[mapO]at h
  split at h
  ·rename_i y hy
   split at h
   ·rename_i l' hl
    injection h with h;subst h
    obtain⟨h1,h2⟩:=mapO_get hl
    refine⟨by simp[h1],λj z hj=>?_⟩
    cases j with
    |zero=>simp at hj;subst hj;exact⟨x,rfl,hy⟩
    |succ j=>simpa using h2 j z (by simpa using hj)
   ·cases h
  ·cases h
theorem tag_ir {w:World}{I J:Bool->Nat->Prop}{g:Bool}{v:V}{x:Value}(h:IR w J v x)(ht:tagOk g v=true) (H:∀h k,J (g&&h) k->I (g&&h) k):IR w (sub g I) v x:=by
 have hk:∀h:Bool,(g || !h)=true->(g&&h)=h:=by intro h;cases g <;> cases h <;> simp
 cases h with
 |bool=>exact .bool _
 |int=>exact .int _ _
 |str=>exact .str _
 |nilp=>exact .nilp
 |nils=>exact .nils
 |nilm=>exact .nilm
 |nilf=>exact .nilf
 |nili=>exact .nili
 |fn=>exact .fn _
 |emp h full a=>exact .emp h full a
 |isl h xs full blk off len cap sz hi hl hc hf hr=>
  have e:=hk h ht
  have W:Wider w w (sub h J) (sub h (sub g I)):=λa k hk'=>⟨by
   have:=H (h&&a) k (by rw[<- Bool.and_assoc,e];exact hk')
   exact this,rfl⟩
  exact .isl h xs full blk off len cap sz (by have:=H h blk (by rw[e];exact hi);exact this) hl hc hf (hr.mono W (λ_=>rfl))
 |ipt h cs blk off hi hr=>
  have e:=hk h ht
  have W:Wider w w (sub h J) (sub h (sub g I)):=λa k hk'=>⟨by
   have:=H (h&&a) k (by rw[<- Bool.and_assoc,e];exact hk')
   exact this,rfl⟩
  exact .ipt h cs blk off (by have:=H h blk (by rw[e];exact hi);exact this) (hr.mono W (λ_=>rfl))
 |imp h es blk entries clock l hi hm ho hp hr=>
  have e:=hk h ht
  have W:Wider w w (sub h J) (sub h (sub g I)):=λa k hk'=>⟨by
   have:=H (h&&a) k (by rw[<- Bool.and_assoc,e];exact hk')
   exact this,rfl⟩
  exact .imp h es blk entries clock l (by have:=H h blk (by rw[e];exact hi);exact this) hm ho hp (hr.mono W)
theorem sub_sub (g:Bool) (I:Bool->Nat->Prop):sub g (sub g I)=sub g I:=by
 funext h k
 simp[sub]
theorem plain_ir {w:World}{I J:Bool->Nat->Prop}{v:V}{x:Value}(hp:plainCell v=true)(h:IR w J v x):IR w I v x:=by
 cases h <;> first
  |exact .bool _ | exact .int _ _ | exact .str _ | cases hp
theorem plain_irs {w:World}{I J:Bool->Nat->Prop}{cs:List V}{xs:List Value}(hp:cs.all plainCell=true)(h:IRs w J cs xs):IRs w I cs xs:=by
 induction cs generalizing xs with
 |nil=>cases h;exact .nil
 |cons v cs ih=>
  cases h with | cons v x cs xs hv hr=>
  simp only[List.all_cons,Bool.and_eq_true]at hp
  exact .cons _ _ _ _ (plain_ir hp.1 hv) (ih hp.2 hr)
theorem plain_ira {w:World}{I J:Bool->Nat->Prop}{v:V}{x:Value}(hp:v.cells.all plainCell=true)(h:IRa w J v x):IRa w I v x:=by
 cases h with
 |one h=>
  refine .one (plain_ir ?_ h)
  cases h <;> simpa [V.cells]using hp
 |agg cs xs h=>exact .agg _ _ (plain_irs hp h)
theorem rows_ir {w:World}{I:Bool->Nat->Prop}{sz blk:Nat}:∀(n off:Nat) (l:List V),n*sz<=l.length->CellsAt w I l blk off->RowsAt w I sz (rows sz n l) blk off
 |0,_,_,_,_=>.nil
 |n+1,off,l,hl,h=>by
  have hsz:sz<=l.length:=by rw[Nat.add_mul]at hl;omega
  refine .cons _ _ (by simp;omega) (.of_get λj v hj=>?_) (rows_ir n (off+sz) _ (by rw[Nat.add_mul]at hl;simp;omega) (h.drop sz))
  have hj':j<sz:=by have:=(List.getElem?_eq_some_iff.1 hj).1;simp at this;omega
  exact h.get j v (by simpa [List.getElem?_take,hj']using hj)
theorem rows_len (sz:Nat):∀(n:Nat) (l:List V),(rows sz n l).length=n
 |0,_=>rfl
 |n+1,l=>by simp[rows,rows_len sz n]
theorem snapC_sound (hs:SR E c) {I:Bool->Nat->Prop}{g:Bool} (H:∀h k,c.imm (g&&h) k->I (g&&h) k) {S:Nat->Prop}(hS:∀b,S b->live c.Z b->I g (c.blk b)) :
  ∀(n:Nat) {v v':V}{x:Value},snapC c.Z E.ty g n v=some v'->VR c v x->(∀b∈blocksC c.Z n v,S b)->tagOk g v'=true->IR c.w (sub g I) v' x
 |0,v,v',x,h,_,_,_=>by simp only[snapC]at h;cases h
 |n+1,v,v',x,h,hv,hb,ht=>by
  have ih:=λ{v v':V}{x:Value}=>snapC_sound hs H hS n (v:=v) (v':=v') (x:=x)
  have rec1:∀{v v':V}{x:Value},(match snapC c.Z E.ty g n v with
   |some v=>if tagOk g v then some v else no "snap: borrowed"
   |none=>none)=some v'->VR c v x->(∀b∈blocksC c.Z n v,S b)->IR c.w (sub g I) v' x:=by
   intro v v' x h hv hb
   split at h
   ·rename_i u hu
    split at h
    ·rename_i ht
     injection h with h;subst h
     exact ih hu hv hb ht
    ·cases h
   ·cases h
  simp only[snapC]at h
  split at h
  ·
   rename_i b off
   split at h
   ·rename_i t cs ex hob
    split at h
    ·rename_i l hl
     injection h with h;subst h
     obtain⟨rfl,hlt⟩:=hv.ref_inv
     obtain⟨arr,g1,g2,g3,g4,g5,g6,g7⟩:=(hs.obj b _ hob).cells_inv
     obtain⟨hll,hlg⟩:=mapO_get hl
     have hlv:live c.Z b:=⟨_,hob,rfl⟩
     refine .ipt g l _ _ (by have:=hS b (hb b (by simp[blocksC])) hlv;simpa [sub]using this) ?_
     rw[sub_sub]
     refine .of_get λj v hj=>?_
     obtain⟨u,hu,hr⟩:=hlg j v hj
     have hu':cs[off+j]?=some u:=by simpa using hu
     obtain⟨x,hx,hxr⟩:=g6.get _ _ hu'
     have hlt:off+j<cs.length:=(List.getElem?_eq_some_iff.1 hu').1
     refine⟨x,?_,rec1 hr hxr λb' hb'=>hb b' ?_⟩
     ·rw[cell_at g1]
      simpa [List.getElem?_take,hlt]using hx
     ·simp only[blocksC,hob,List.mem_cons,List.mem_flatMap]
      exact .inr ⟨u,List.mem_of_getElem? hu',hb'⟩
    ·cases h
   ·cases h
  ·
   rename_i b off len cap
   split at h
   ·rename_i t cs ex hob
    split at h
    ·rename_i i hi
     split at h
     ·rename_i hle
      split at h
      ·rename_i l hl
       injection h with h;subst h
       obtain⟨cap',rfl,hlt,hlc,hk,ht'⟩:=hv.sl_inv
       obtain⟨arr,g1,g2,⟨i',hi',hez⟩,g4,g5,g6,g7⟩:=(hs.obj b _ hob).cells_inv
       rw[hi]at hi';injection hi' with hi';subst hi'
       obtain⟨hll,hlg⟩:=mapO_get hl
       have hlv:live c.Z b:=⟨_,hob,rfl⟩
       have hlen:l.length=len*i.size:=by rw[hll];simp;omega
       refine .isl g _ _ _ _ len cap' i.size (by have:=hS b (hb b (by simp[blocksC])) hlv;simpa [sub]using this) (rows_len _ _ _).symm hlc ?_ ?_
       ·intro hf
        split at hf
        ·rename_i k
         rw[hk k rfl]
         simpa using hf
        ·simp only[Bool.and_eq_true,decide_eq_true_eq,beq_iff_eq]at hf
         have e1:=ht' rfl
         have e2:=g5 hf.1.1
         rw[hez,<- g2,<- e2,<- hf.2]at e1
         have:cap'*i.size=len*i.size:=by omega
         exact Nat.eq_of_mul_eq_mul_right hf.1.2 this
       ·refine rows_ir len off l (by omega) ?_
        rw[sub_sub]
        refine .of_get λj v hj=>?_
        obtain⟨u,hu,hr⟩:=hlg j v hj
        have hj':j<len*i.size:=by have:=(List.getElem?_eq_some_iff.1 hj).1;omega
        have hu':cs[off+j]?=some u:=by simpa [List.getElem?_take,hj']using hu
        obtain⟨x,hx,hxr⟩:=g6.get _ _ hu'
        have hlt:off+j<cs.length:=(List.getElem?_eq_some_iff.1 hu').1
        refine⟨x,?_,rec1 hr hxr λb' hb'=>hb b' ?_⟩
        ·rw[cell_at g1]
         simpa [List.getElem?_take,hlt]using hx
        ·simp only[blocksC,hob,List.mem_cons,List.mem_flatMap]
         exact .inr ⟨u,List.mem_of_getElem? hu',hb'⟩
      ·cases h
     ·cases h
    ·cases h
   ·cases h
  ·
   rename_i b
   split at h
   ·rename_i es hob
    split at h
    ·rename_i l hl
     injection h with h;subst h
     obtain⟨rfl,hlt⟩:=hv.mp_inv
     obtain⟨entries,clock,hm,hok,el,hpe,hmr⟩:=hs.obj b _ hob
     have hlv:live c.Z b:=⟨_,hob,rfl⟩
     refine .imp g l _ entries clock el (by have:=hS b (hb b (by simp[blocksC])) hlv;simpa [sub]using this) hm hok hpe ?_
     rw[sub_sub]
     have hbs:∀e∈es,∀b'∈e.2.cells.flatMap (blocksC c.Z n),S b':=by
      intro e he b' hb'
      refine hb b' ?_
      simp only[blocksC,hob,List.mem_cons,List.mem_flatMap]
      exact .inr ⟨e,he,by simpa using hb'⟩
     clear hob hm hb hv ht hpe hok
     induction es generalizing l el with
     |nil=>
      cases hmr
      simp only[mapO]at hl
      injection hl with hl;subst hl
      exact .nil
     |cons e es ihe=>
      cases hmr with | cons k v es' e' el' hk hv hr=>
      simp only[mapO]at hl
      split at hl
      case h_2=>cases hl
      rename_i y hy
      split at hl
      case h_2=>cases hl
      rename_i l' hl'
      injection hl with hl;subst hl
      have hrest:=ihe l' hl' el' hr (λe he=>hbs e (by simp[he]))
      split at hy
      case isFalse=>cases hy
      rename_i hpk
      split at hy
      ·rename_i cs
       split at hy
       case h_2=>cases hy
       rename_i cs' hcs
       injection hy with hy;subst hy
       obtain⟨xs,hx,hvs⟩:=hv.agg_inv
       refine .cons _ _ _ _ _ (plain_ira hpk hk) ?_ hrest
       rw[hx]
       refine .agg _ _ ?_
       have hb0:=hbs _ (List.mem_cons_self ..)
       simp only[V.cells]at hb0
       clear hx hbs hrest ihe hl' hr hv
       induction cs generalizing cs' xs with
       |nil=>
        cases hvs
        simp only[mapO]at hcs
        injection hcs with hcs;subst hcs
        exact .nil
       |cons u cs ihc=>
        cases hvs with | cons _ x _ xs hu hus=>
        simp only[mapO]at hcs
        split at hcs
        case h_2=>cases hcs
        rename_i y hy
        split at hcs
        case h_2=>cases hcs
        rename_i l'' hl''
        injection hcs with hcs;subst hcs
        exact .cons _ _ _ _ (rec1 hy hu λb' hb'=>hb0 b' (by simp[hb'])) (ihc l'' hl'' xs hus λb' hb'=>hb0 b' (by
         simp only[List.flatMap_cons,List.mem_append];exact .inr hb'))
      ·rename_i hna
       split at hy
       case h_2=>cases hy
       rename_i v' hv'
       injection hy with hy;subst hy
       refine .cons _ _ _ _ _ (plain_ira hpk hk) (.one (rec1 hv' hv λb' hb'=>hbs _ (List.mem_cons_self ..) b' ?_)) hrest
       have:v.cells=[v]:=by
        cases v <;> first | rfl | exact (hna _ rfl).elim
       simp[this,hb']
    ·cases h
   ·cases h
  ·
   injection h with h;subst h
   obtain⟨xs,ys,rfl,h1,h2⟩:=hv.fn_inv
   cases h1;cases h2
   exact .fn _
  ·cases h
  ·cases h
  ·cases h
  ·cases h
  ·cases h
  ·injection h with h;subst h
   cases hv with
   |inl h=>exact tag_ir h ht H
   |_=>first
    |contradiction
    |(exfalso;apply_assumption <;> rfl)
    |(exfalso;simp_all;done)
end
end
section
section
variable {E:Env}{c d:Cx}
theorem snapOne_sound (hs:SR E c) {I:Bool->Nat->Prop}{g:Bool} (H:∀h k,c.imm (g&&h) k->I (g&&h) k) {S:Nat->Prop}(hS:∀b,S b->live c.Z b->I g (c.blk b))(hw:d.w=c.w)(hd:∀h k,I (g&&h) k->d.imm h k)
  {v v':V}{x:Value}(h:snapV.one c.Z E.ty g v=some v')(hv:VR c v x)(hb:∀b∈blocksC c.Z snapFuel v,S b):VR d v' x:=by
 unfold snapV.one at h
 split at h
 case h_2=>cases h
 rename_i u hu
 split at h
 case isFalse=>cases h
 rename_i ht
 injection h with h;subst h
 have:=snapC_sound hs H hS snapFuel hu hv hb ht
 refine .inl (IR.mono (I:=sub g I) (I':=d.imm) (w:=c.w) (w':=d.w) (λh k hk=>⟨hd h k hk,by rw[hw]⟩) this)
theorem snapOnes_sound (hs:SR E c) {I:Bool->Nat->Prop}{g:Bool} (H:∀h k,c.imm (g&&h) k->I (g&&h) k) {S:Nat->Prop}(hS:∀b,S b->live c.Z b->I g (c.blk b))(hw:d.w=c.w)(hd:∀h k,I (g&&h) k->d.imm h k) :
  ∀{vs vs':List V}{xs:List Value},mapO (snapV.one c.Z E.ty g) vs=some vs'->VRs c vs xs->(∀b∈vs.flatMap (blocksC c.Z snapFuel),S b)->VRs d vs' xs
 | [],vs',xs,h,hv,_=>by
  cases hv
  simp only[mapO]at h
  injection h with h;subst h
  exact .nil
 |v::vs,vs',xs,h,hv,hb=>by
  cases hv with | cons _ x _ xs hx hr=>
  simp only[mapO]at h
  split at h
  case h_2=>cases h
  rename_i u hu
  split at h
  case h_2=>cases h
  rename_i l hl
  injection h with h;subst h
  exact .cons _ _ _ _ (snapOne_sound hs H hS hw hd hu hx λb hb'=>hb b (by simp[hb'])) (snapOnes_sound hs H hS hw hd hl hr λb hb'=>hb b (by rw[List.flatMap_cons,List.mem_append];exact .inr hb'))
theorem snapV_sound (hs:SR E c) {I:Bool->Nat->Prop}{g:Bool} (H:∀h k,c.imm (g&&h) k->I (g&&h) k) {S:Nat->Prop}(hS:∀b,S b->live c.Z b->I g (c.blk b))(hw:d.w=c.w)(hd:∀h k,I (g&&h) k->d.imm h k)
  {v v':V}{x:Value}(h:snapV c.Z E.ty g v=some v')(hv:VR c v x)(hb:∀b∈blocksV c.Z v,S b):VR d v' x:=by
 unfold snapV at h
 split at h
 ·rename_i f a b
  split at h
  case h_2=>cases h
  rename_i a' b' ha hb'
  injection h with h;subst h
  obtain⟨xs,ys,rfl,h1,h2⟩:=hv.fn_inv
  exact .fn f _ _ _ _ (snapOnes_sound hs H hS hw hd ha h1 λb hb'=>hb b (by simp only[blocksV,List.mem_append];exact .inl hb')) (snapOnes_sound hs H hS hw hd hb' h2 λb hb'=>hb b (by simp only[blocksV,List.mem_append];exact .inr hb'))
 ·rename_i cs
  split at h
  case h_2=>cases h
  rename_i l hl
  injection h with h;subst h
  obtain⟨xs,rfl,h1⟩:=hv.agg_inv
  exact .agg _ _ (snapOnes_sound hs H hS hw hd hl h1 λb hb'=>hb b (by simpa only[blocksV]using hb'))
 ·rename_i t u
  split at h
  case h_2=>cases h
  rename_i l hl
  injection h with h;subst h
  obtain⟨y,rfl,h1⟩:=hv.ifc_inv
  exact .ifc _ _ _ (snapOne_sound hs H hS hw hd hl h1 λb hb'=>hb b (by simpa only[blocksV]using hb'))
 ·rename_i n1 n2 n3
  refine snapOne_sound hs H hS hw hd h hv λb hb'=>hb b ?_
  cases v <;> first
   |exact hb'
   |exact (n1 _ _ _ rfl).elim
   |exact (n2 _ rfl).elim
   |exact (n3 _ _ rfl).elim
theorem snapVs_sound (hs:SR E c) {I:Bool->Nat->Prop}{g:Bool} (H:∀h k,c.imm (g&&h) k->I (g&&h) k) {S:Nat->Prop}(hS:∀b,S b->live c.Z b->I g (c.blk b))(hw:d.w=c.w)(hd:∀h k,I (g&&h) k->d.imm h k) :
  ∀{vs vs':List V}{xs:List Value},mapO (snapV c.Z E.ty g) vs=some vs'->VRs c vs xs->(∀b∈vs.flatMap (blocksV c.Z),S b)->VRs d vs' xs
 | [],vs',xs,h,hv,_=>by
  cases hv
  simp only[mapO]at h
  injection h with h;subst h
  exact .nil
 |v::vs,vs',xs,h,hv,hb=>by
  cases hv with | cons _ x _ xs hx hr=>
  simp only[mapO]at h
  split at h
  case h_2=>cases h
  rename_i u hu
  split at h
  case h_2=>cases h
  rename_i l hl
  injection h with h;subst h
  exact .cons _ _ _ _ (snapV_sound hs H hS hw hd hu hx λb hb'=>hb b (by simp[hb'])) (snapVs_sound hs H hS hw hd hl hr λb hb'=>hb b (by rw[List.flatMap_cons,List.mem_append];exact .inr hb'))
def Cx.inner (c c1:Cx):Cx:={ c with Z:=[],anc:=λk=>c.anc k\/c1.own k }
def Cx.outer (c1:Cx) (w:World):Cx:={ c1 with w:=w }
theorem live_kills {Z:Sg}{b:Nat}:∀{l:List Nat} , live (kill Z l) b->live Z b/\b ∉ l:=by
 intro l
 induction l generalizing Z with
 |nil=>intro h;exact⟨h,by simp⟩
 |cons a l ih=>
  intro h
  obtain⟨h1,h2⟩:=ih (Z:=Z.set a .dead) h
  obtain⟨h3,h4⟩:=live_kill h1
  exact⟨h3,by simp[h4,h2]⟩
def Cx.kills (c:Cx) (l:List Nat):Cx:={ c with Z:=Ax.kill c.Z l }
theorem Cx.kills_ok (hs:SR E c):∀l,Ext c (c.kills l)/\SR E (c.kills l):=by
 intro l
 induction l generalizing c with
 |nil=>exact⟨Ext.refl c,hs⟩
 |cons a l ih=>
  obtain⟨h1,h2⟩:=ih (Cx.kill_sr hs a)
  exact⟨(c.kill_ext a).trans h1,h2⟩
theorem own_kills {l:List Nat}{k:Nat}(h:(c.kills l).own k):c.own k:=by
 obtain⟨b,hl,hb⟩:=h
 exact⟨b,(live_kills hl).1,hb⟩
theorem inner_own {l:List Nat}{k:Nat}:¬ (c.inner (c.kills l)).own k:=by
 rintro⟨b,⟨o,ho,_⟩,_⟩
 cases ho
theorem inner_sr (hs:SR E c) (l:List Nat):SR E (c.inner (c.kills l)) where
 inj:=λb b' h=>by
  obtain⟨o,ho,_⟩:=h
  cases ho
 obj:=λb o ho=>by cases ho
 anc:=λb h=>by
  obtain⟨o,ho,_⟩:=h
  cases ho
 ancLt:=λk h=>by
  rcases h with h | h
  ·exact hs.ancLt k h
  ·exact hs.own_lt (own_kills h)
 gl:=λk p hk=>let ⟨o,h1,h2,_⟩:=hs.gl k p hk; ⟨o,h1,h2,inner_own⟩
theorem args_in (hs:SR E c) {g:Bool}{l:List Nat}{vs vs':List V}{xs:List Value}(h:mapO (snapV c.Z E.ty g) vs=some vs')(hv:VRs c vs xs)(hg:g=true\/∀b∈vs.flatMap (blocksV c.Z),b∈l) :
  VRs (c.inner (c.kills l)) vs' xs:=by
 refine snapVs_sound (d:=c.inner (c.kills l)) hs (I:=(c.inner (c.kills l)).imm) (S:=λb=>g=true\/b∈l) ?_ ?_ rfl ?_ h hv ?_
 ·intro h k hk
  exact⟨hk.1,inner_own,λe=>λha=>by
   rcases ha with ha | ha
   ·exact hk.2.2 e ha
   ·exact hk.2.1 (own_kills ha)⟩
 ·intro b hb hl
  refine⟨hs.lt hl,inner_own,λe=>λha=>?_⟩
  rcases ha with ha | ⟨b',hl',e'⟩
  ·exact hs.anc b hl ha
  ·obtain⟨h1,h2⟩:=live_kills hl'
   have:=hs.inj b' b h1 hl e'
   subst this
   rcases hb with hb | hb
   ·rw[hb]at e;cases e
   ·exact h2 hb
 ·intro h k hk
  exact imm_mono hk
 ·intro b hb
  rcases hg with hg | hg
  ·exact .inl hg
  ·exact .inr (hg b hb)
theorem grow_ok (hs:SR E c) {w:World}(hsz:c.w.heap.size<=w.heap.size)(hk:∀k,k<c.w.heap.size->w.heap[k]?=c.w.heap[k]?)(h1:w.os=c.w.os)(h2:w.tape=c.w.tape)(h3:w.output=c.w.output) :
  Ext c (c.outer w)/\SR E (c.outer w):=by
 have he:Ext c (c.outer w):=⟨hsz,λk hlt ho=>⟨hk k hlt,λ⟨b,hl,hb⟩=>ho ⟨b,hl,hb⟩⟩,Nat.le_refl _,λ_ _=>rfl,λ_ _=>rfl,λ_ _=>rfl,rfl,h1,h2,h3⟩
 refine⟨he,⟨hs.inj,λb o hb=>?_,hs.anc,λk hk=>Nat.lt_of_lt_of_le (hs.ancLt k hk) hsz,gl_ext he hs.gl⟩⟩
 by_cases hl:live c.Z b
 ·exact (hs.obj b o hb).mono he (live_lt hl) (hk _ (hs.lt hl))
 ·cases o with
  |dead=>exact True.intro
  |_=>exact (hl ⟨_,hb,rfl⟩).elim
theorem return_ok (hs:SR E c) {l:List Nat}(hx:Ext (c.inner (c.kills l)) d)(hd:SR E d) {v v':V}{x:Value}(hv:VR d v x)(h:snapT d.Z E.ty false v=some v') :
  Ext c ((c.kills l).outer d.w)/\SR E ((c.kills l).outer d.w)/\VR ((c.kills l).outer d.w) v' x:=by
 obtain⟨k1,k2⟩:=Cx.kills_ok hs l
 obtain⟨g1,g2⟩:=grow_ok k2 (w:=d.w) hx.size (λk hk=>(hx.keep k hk inner_own).1) hx.os hx.tape hx.output
 refine⟨k1.trans g1,g2,?_⟩
 have hanc:∀k,¬ d.anc k->¬ c.anc k/\¬ (c.kills l).own k:=λk hk=>by
  rw[hx.anc]at hk
  exact⟨λh=>hk (.inl h),λh=>hk (.inr h)⟩
 have H:∀h k,d.imm (false&&h) k->((c.kills l).outer d.w).imm (false&&h) k:=λh k hk=>by
  obtain⟨a1,a2,a3⟩:=hk
  obtain⟨b1,b2⟩:=hanc k (a3 (by simp))
  exact⟨a1,λ⟨b,hl,hb⟩=>b2 ⟨b,hl,hb⟩,λ_=>b1⟩
 have hS:∀b,True->live d.Z b->((c.kills l).outer d.w).imm false (d.blk b):=λb _ hl=>by
  obtain⟨b1,b2⟩:=hanc _ (hd.anc b hl)
  exact⟨hd.lt hl,λ⟨b,hl,hb⟩=>b2 ⟨b,hl,hb⟩,λ_=>b1⟩
 have hdd:∀h k,((c.kills l).outer d.w).imm (false&&h) k->((c.kills l).outer d.w).imm h k:=λh k hk=>imm_mono hk
 unfold snapT at h
 split at h
 ·rename_i vs
  split at h
  case h_2=>cases h
  rename_i l' hl'
  injection h with h;subst h
  obtain⟨xs,rfl,hvs⟩:=hv.tup_inv
  exact .tup _ _ (snapVs_sound (d:=(c.kills l).outer d.w) hd H hS rfl hdd hl' hvs λ_ _=>trivial)
 ·exact snapV_sound (d:=(c.kills l).outer d.w) hd H hS rfl hdd h hv λ_ _=>trivial
end
end
section
def Runs (P:Program) (f:Nat) (xs:List Value) (w:World) (R:Value->World->Prop):Prop:=
 ((callFunc f xs.toArray).run P w=.ok (.enter f xs.toArray) w/\Calls P f xs.toArray w λe w'=>∃x,e=.returned x/\R x w') \/
 ∃x w',(callFunc f xs.toArray).run P w=.ok (.value x) w'/\R x w'
theorem Runs.mono {P:Program}{f:Nat}{xs:List Value}{w:World}{R R':Value->World->Prop}(h:Runs P f xs w R)(hr:∀x w',R x w'->R' x w'):Runs P f xs w R':=by
 rcases h with⟨h1,h2⟩ | ⟨x,w',h1,h2⟩
 ·exact .inl ⟨h1,h2.mono λe w' ⟨x,hx,h⟩=>⟨x,hx,hr _ _ h⟩⟩
 ·exact .inr ⟨x,w',h1,hr _ _ h2⟩
def Back (E:Env) (c:Cx) (v:V) (σ':Sg) (x:Value) (w':World):Prop:=∃c':Cx,c'.w=w'/\c'.Z=σ'/\Ext c c'/\SR E c'/\VR c' v x
structure FnsOk (P:Program) (E:Env):Prop where
 fn:∀f F,E.fn f=some F->∃fn,P.funcs[f]?=some fn/\fn.body=some F.code/\fn.ntmps=F.ntmps/\fn.results.toList=F.results/\(fn.name == "runtime.NumGoroutine")=false
 spec:∀f s,E.spec f=some s->∀(d:Cx) (vs:List V) (xs:List Value) (v:V),d.Z=[]->SR E d->VRs d vs xs->s vs=some v->Runs P f xs d.w (Back E d v [])
 hspec:∀f s,E.hspec f=some s->∀(c:Cx) (vs:List V) (xs:List Value) (v:V) (σ':Sg),SR E c->VRs c vs xs->s vs c.Z=some (v,σ')->Runs P f xs c.w (Back E c v σ')
def ExitR:X->Exit->Prop
 | .normal,e=>e=.normal
 | .exit id,e=>e=.exit id
 | .ret,e=>e=.ret
def Post (E:Env) (c:Cx) (r:X) (fr':Fr) (σ':Sg) (e:Exit) (a:Act) (w:World):Prop:=
 ExitR r e/\a.defers=[]/\∃c':Cx,c'.w=w/\c'.Z=σ'/\Ext c c'/\SR E c'/\FR c' fr' a.tmps
def RunOk (P:Program) (E:Env) (ev:Run):Prop:=∀(code:Code) (fr:Fr) (Z:Sg) (r:X) (fr':Fr) (σ':Sg),ev code fr Z=some (r,fr',σ') ->
 ∀(c:Cx) (a:Act),SR E c->c.Z=Z->FR c fr a.tmps->a.defers=[]->code.wp P (Post E c r fr' σ') a c.w
section
variable {P:Program}{E:Env}{ev:Run}
def resF (tmps:Array Value):ResultVar->Sem Value
 | .tmp t=>pure (tmps.getD t undef)
 | .cell a t=>do loadVar t (<- asAddr (tmps.getD a undef))
theorem results_eq (fn:Func) (tmps:Array Value):Go.results fn tmps=(do
  let vs <- fn.results.mapM (resF tmps)
  pure (if h:vs.size=1 then vs[0] else .tuple vs)):=rfl
theorem results_sound (he:EnvOk P E) {c:Cx}(hs:SR E c) {fr:Fr}{tmps:Array Value}(hf:FR c fr tmps):∀{rs:List ResultVar}{vs:List V},Ax.results E fr c.Z rs=some vs ->
  ∃xs:List Value,(rs.mapM (resF tmps)).run P c.w=.ok xs c.w/\VRs c vs xs
 | [],vs,h=>by
  simp only[Ax.results]at h
  injection h with h;subst h
  exact⟨[],by simp,.nil⟩
 | .tmp t::rs,vs,h=>by
  simp only[Ax.results]at h
  split at h
  case h_2=>cases h
  rename_i v l hv hl
  injection h with h;subst h
  obtain⟨xs,h1,h2⟩:=results_sound he hs hf hl
  exact⟨tmps.getD t undef::xs,by simp only[List.mapM_cons,resF,Sem.run_bind,Sem.run_pure,Result.andThen_ok,h1],.cons _ _ _ _ (hf.get hv) h2⟩
 | .cell a t::rs,vs,h=>by
  simp only[Ax.results]at h
  split at h
  case h_2=>cases h
  rename_i v l hv hl
  cases hla:loadAt E c.Z t v with
  |none=>rw[hla]at h;cases h
  |some u=>
   rw[hla]at h
   injection h with h;subst h
   obtain⟨xs,h1,h2⟩:=results_sound he hs hf hl
   obtain⟨y,hy,hyv⟩:=load_sound he hs hla (hf.get hv)
   refine⟨y::xs,?_,.cons _ _ _ _ hyv h2⟩
   have e:(do loadVar t (<- asAddr (tmps.getD a undef)):Sem Value).run P c.w=.ok y c.w:=by
    have hx:=hf.get hv
    revert hy hx
    generalize tmps.getD a undef=q
    intro hy hx
    unfold loadAt at hla
    split at hla
    ·cases hla
    ·split at hla
     ·obtain⟨rfl,_⟩:=hx.ref_inv
      simpa [Instr.loadAt,Instr.sureAddr,asAddr]using hy
     ·obtain⟨blk,off,rfl,_⟩:=hx.ipt_inv
      simpa [Instr.loadAt,Instr.sureAddr,asAddr]using hy
     ·cases hla
   simp only[List.mapM_cons]
   rw[Sem.run_bind]
   show ((do loadVar t (<- asAddr (tmps.getD a undef)):Sem Value).run P c.w).andThen _=_
   rw[e]
   simp only[Result.andThen_ok,Sem.run_bind,h1,Sem.run_pure]
theorem enter_sound (he:EnvOk P E)(hfs:FnsOk P E)(hev:RunOk P E ev) {f:Nat}{F:Fn}(hF:E.fn f=some F) {c:Cx}(hs:SR E c) {vs:List V}{xs:List Value}(hv:VRs c vs xs) {v:V}{σ':Sg}
  (h:enter E ev F vs c.Z=some (v,σ')):Calls P f xs.toArray c.w λe w'=>∃x,e=.returned x/\Back E c v σ' x w':=by
 obtain⟨fn,h1,h2,h3,h4,h5⟩:=hfs.fn f F hF
 unfold enter at h
 split at h
 ·cases h
 rename_i fr0 hfr0
 have main:∀{r:X}{fr:Fr}{σ1:Sg},ev F.code fr0 c.Z=some (r,fr,σ1)->(∀e,ExitR r e->e=.normal\/e=.ret) ->
   (match Ax.results E fr σ1 F.results with
    |some [v]=>some (v,σ1)
    |some vs=>some (.tup vs,σ1)
    |none=>no "results")=some (v,σ')->Calls P f xs.toArray c.w λe w'=>∃x,e=.returned x/\Back E c v σ' x w':=by
  intro r fr σ1 he1 hr hres
  refine calls_of_wp h1 h2 ?_
  have hlen:=hv.len
  have:=hev _ _ _ _ _ _ he1 c { tmps:=xs.toArray++Array.replicate (fn.ntmps-xs.toArray.size) undef,defers:=[] } hs rfl (by
   have:=FR.init hv hfr0
   simpa [h3]using this) rfl
  refine wp_mono this ?_
  rintro e a w ⟨hx,hd,c',rfl,rfl,k1,k2,k3⟩
  have fin:a.defers=[]/\∃v',(Go.results fn a.tmps).run P c'.w=.ok v' c'.w/\∃x,Ending.returned v'=.returned x/\Back E c v σ' x c'.w:=by
   refine⟨hd,?_⟩
   split at hres
   ·rename_i u hu
    injection hres with hres;injection hres with e1 e2;subst e1 e2
    obtain⟨ys,g1,g2⟩:=results_sound he k2 k3 hu
    cases g2 with | cons _ y _ ys hy hr=>
    cases hr
    refine⟨y,?_,y,rfl,c',rfl,rfl,k1,k2,hy⟩
    rw[results_eq,Array.mapM_eq_mapM_toList,h4]
    simp only[Sem.run_bind,Sem.run_map]
    rw[g1]
    simp
   ·rename_i us hns hu
    injection hres with hres;injection hres with e1 e2;subst e1 e2
    obtain⟨ys,g1,g2⟩:=results_sound he k2 k3 hu
    refine⟨.tuple ys.toArray,?_,_,rfl,c',rfl,rfl,k1,k2,.tup _ _ g2⟩
    rw[results_eq,Array.mapM_eq_mapM_toList,h4]
    simp only[Sem.run_bind,Sem.run_map]
    rw[g1]
    have:ys.length≠1:=by
     intro e
     have hl:=g2.len
     rw[e]at hl
     match us,hl with
     | [u],_=>exact hns u rfl
    simp[this]
   ·cases hres
  rcases hr e hx with rfl | rfl
  ·exact fin
  ·exact fin
 split at h
 ·rename_i fr σ1 he1
  exact main he1 (λe h=>.inr h) h
 ·rename_i fr σ1 he1
  exact main he1 (λe h=>.inl h) h
 ·cases h
theorem callF_sound (he:EnvOk P E)(hfs:FnsOk P E)(hev:RunOk P E ev) {f:Nat}{c:Cx}(hs:SR E c) {vs:List V}{xs:List Value}(hv:VRs c vs xs) {v:V}{σ':Sg}
  (h:callF E ev f vs c.Z=some (v,σ')):Runs P f xs c.w (Back E c v σ'):=by
 unfold callF at h
 split at h
 ·rename_i s hsp
  exact hfs.hspec f s hsp c vs xs v σ' hs hv h
 split at h
 ·rename_i s hsp
  split at h
  case h_2=>cases h
  rename_i vs' hvs'
  split at h
  case h_2=>cases h
  rename_i u hu
  split at h
  case h_2=>cases h
  rename_i u' hu'
  injection h with h;injection h with h1 h2;subst h1 h2
  have hin:=args_in (g:=true) (l:=[]) hs hvs' hv (.inl rfl)
  have hr:=hfs.spec f s hsp (c.inner (c.kills [])) vs' xs u rfl (inner_sr hs []) hin hu
  refine hr.mono ?_
  rintro x w' ⟨d,rfl,hdσ,hx,hsd,hxv⟩
  rw[<- hdσ]at hu'
  obtain⟨g1,g2,g3⟩:=return_ok hs hx hsd hxv hu'
  exact⟨(c.kills []).outer d.w,rfl,rfl,g1,g2,g3⟩
 split at h
 ·cases h
 rename_i F hF
 obtain⟨fn,f1,f2,f3,f4,f5⟩:=hfs.fn f F hF
 have hcall:∀xs:List Value,(callFunc f xs.toArray).run P c.w=.ok (.enter f xs.toArray) c.w:=by
  intro xs
  have f5':¬ fn.name = "runtime.NumGoroutine" := by simpa using f5
  simp[callFunc,f1,f5',f2]
 split at h
 ·
  split at h
  ·rename_i r hr
   injection h with h;subst h
   exact .inl ⟨hcall xs,enter_sound he hfs hev hF hs hv hr⟩
  ·cases h
 ·
  dsimp only at h
  split at h
  case h_2=>cases h
  rename_i vs' hvs'
  split at h
  case h_2=>cases h
  rename_i u σ1 hent
  split at h
  case h_2=>cases h
  rename_i u' hu'
  injection h with h;injection h with h1 h2;subst h1 h2
  have go:∀(g:Bool) (l:List Nat),mapO (snapV c.Z E.ty g) vs=some vs'->(g=true\/∀b∈vs.flatMap (blocksV c.Z),b∈l) ->
    Runs P f xs c.w (Back E c u' (Ax.kill c.Z l)):=by
   intro g l hm hg
   have hin:=args_in (g:=g) (l:=l) hs hm hv hg
   have hcl:=enter_sound he hfs hev hF (inner_sr hs l) hin hent
   refine .inl ⟨hcall xs,hcl.mono ?_⟩
   rintro e w' ⟨x,rfl,d,rfl,hdσ,hx,hsd,hxv⟩
   rw[<- hdσ]at hu'
   obtain⟨g1,g2,g3⟩:=return_ok hs hx hsd hxv hu'
   exact⟨x,rfl,(c.kills l).outer d.w,rfl,rfl,g1,g2,g3⟩
  split at hvs'
  ·exact go true [] hvs' (.inl rfl)
  ·exact go false _ hvs' (.inr λb hb=>hb)
end
end
section
def evL (E:Env) (ev:Run) (dr:Fz) (ops:Array Oper):List Nat->Fr->Sg->Option (Fr × Sg)
 | [],fr,Z=>some (fr,Z)
 |i::rest,fr,Z=>match ops[i]? with
  |none=>evL E ev dr ops rest fr Z
  |some o=>match stepO E ev dr ops o fr Z with
   |some (fr,Z)=>evL E ev dr ops rest fr Z
   |none=>none
section
variable {P:Program}{E:Env}{ev:Run}
theorem yielded_eq {c:Cx}{fr:Fr}{tmps:Array Value}(h:FR c fr tmps) (ops:Array Oper) (j:Nat):Go.yielded ops tmps j=Ax.yielded ops fr j:=by
 unfold Go.yielded Ax.yielded
 cases hd:(ops[j]?).bind (·.dst) with
 |none=>rfl
 |some d=>
  simp only[Option.bind_some]
  cases hf:fr.get d with
  |none=>
   have:tmps[d]?=none:=by
    unfold Fr.get at hf
    split at hf
    ·cases hf
    ·rename_i g
     have:=blt_false g
     rw[h.1]at this
     simp;omega
   rw[this]
  |some v=>
   obtain⟨x,hx,hr⟩:=h.2 d v hf
   rw[hx]
   cases hr with
   |inl h=>cases h <;> rfl
   |_=>rfl
theorem wants_eq {c:Cx}{fr:Fr}{tmps:Array Value}(h:FR c fr tmps) (ops:Array Oper) (o:Oper):Region.wanted o (Go.yielded ops tmps)=wants ops o fr:=by
 unfold Region.wanted wants
 cases hg:o.guard with
 |none=>rfl
 |some p=>simp only[yielded_eq h]
theorem FR.put {c:Cx}{fr:Fr}{a:Act}(h:FR c fr a.tmps) {v:V}{x:Value}(hv:VR c v x) (dst:Option Nat):FR c (putS fr dst v) (a.put dst x).tmps:=by
 cases dst with
 |none=>exact h
 |some d=>
  exact FR.set h hv d
theorem put_defers (a:Act) (dst:Option Nat) (x:Value):(a.put dst x).defers=a.defers:=by cases dst <;> rfl
theorem lit_sound (he:EnvOk P E) {c:Cx}(hs:SR E c) {fr:Fr}{a:Act}(hf:FR c fr a.tmps) {t len:Nat}{parts:Array (Nat × Operand)}{v:V}(h:litOp E fr t len parts.toList=some v) :
  GoodV E c ((Instr.buildSlice t len (parts.map λ(i,x)=>(i,a.eval x))).run P c.w) v c.Z:=by
 unfold litOp at h
 split at h
 case h_2=>cases h
 rename_i e _ _ _ ps hi hps
 split at h
 case h_2=>cases h
 rename_i i hei
 split at h
 case isFalse=>cases h
 rename_i hle
 split at h
 case h_2=>cases h
 rename_i cs hcs
 split at h
 case isFalse=>cases h
 rename_i htag
 injection h with h;subst h
 have ht:=he.ty e i hei
 obtain⟨d,hd,hkd⟩:=(he.ty t _ hi).kd
 simp only[KdR]at hkd
 subst hkd
 obtain⟨z,hz,hr,hzs⟩:=ht.zero
 have hv:VR c i.zero z:=(hr _ _).vr
 have hbase:VRs c (reps len i.zero.cells) (((Array.range (len*i.size)).map ((if len*i.size=0 then #[] else z.cells)[· % (if len*i.size=0 then #[] else z.cells).size]!))).toList:=by
  rw[made_cells _ _ hzs]
  exact reps_vrs hv.cells len
 have hp:PR c ps (parts.map λ(i,x)=>(i,a.eval x)).toList:=by simpa using evalPs_sound hf hps
 obtain⟨arr,r1,r2,r3⟩:=fill_sound (c:=c) _ hp hbase hcs
 have hasz:arr.size=len*i.size:=by rw[r3];simp
 obtain⟨k1,k2⟩:=grow_ok hs (w:={ c.w with heap:=c.w.heap.push (.cells arr e (0,0)) }) (by simp) (λk hk=>by simp[Array.getElem?_push,Nat.ne_of_lt hk]) rfl rfl rfl
 refine⟨c.outer { c.w with heap:=c.w.heap.push (.cells arr e (0,0)) },.slice (some ⟨c.w.heap.size,0,none⟩) len len,?_,rfl,k1,k2,?_⟩
 ·unfold Instr.buildSlice
  simp only[Sem.run_bind,run_underlying hd,Result.andThen_ok,ht.size]
  rw[Sem.run_ite,if_neg (by omega)]
  by_cases h0:len*i.size=0
  ·simp only[h0,if_true]at r1 ⊢
   simp only[Sem.run_bind,Sem.run_pure,Result.andThen_ok]
   rw[r1]
   simp[newRow,Cx.outer]
  ·simp only[h0,if_false]at r1 ⊢
   simp only[Sem.run_bind,Sem.run_pure,hz,Result.andThen_ok]
   rw[r1]
   simp[newRow,Cx.outer]
 ·refine .inl (.isl false _ true _ 0 len len i.size ⟨by simp[Cx.outer],λho=>?_,λ_ ha=>?_⟩ (rows_len _ _ _).symm (Nat.le_refl _) (λ_=>rfl) (rows_ir len 0 cs (by have:=r2.len;simp at this;omega) (.of_get λj v hj=>?_)))
  ·have:=hs.own_lt (k:=c.w.heap.size) ho
   omega
  ·have:=hs.ancLt _ ha
   omega
  ·obtain⟨x,hx,hxr⟩:=r2.get j v hj
   refine⟨x,?_,?_⟩
   ·simp only[Array.getElem?_toList]at hx
    rw[cell_at (arr:=arr) (t:=e) (fr:=(0,0)) (by
     show (c.w.heap.push _)[c.w.heap.size]?=_
     simp)]
    simpa using hx
   ·have htv:tagOk false v=true:=List.all_eq_true.1 htag v (List.mem_of_getElem? hj)
    have base:IR c.w (sub false c.imm) v x:=by
     cases hxr with
     |inl h=>exact tag_ir h htv λ_ _ h=>h
     |fn f a b xs ys ha hb=>
      cases a with
      |cons=>cases htv
      |nil=>cases b with
       |cons=>cases htv
       |nil=>cases ha;cases hb;exact .fn _
     |_=>cases htv
    exact base.mono (k1.wider.sub false)
theorem app_sound (he:EnvOk P E) {c:Cx}(hs:SR E c) {fr:Fr}{a:Act}(hf:FR c fr a.tmps) {args:Array Operand}{ats:Array Nat}{ty:Nat}{consts:Array Bool}{v:V}(h:appLit E fr c.Z args.toList ats=some v) :
  ∃(c':Cx) (y:Value),(Go.builtin .append ats ty consts (args.map a.eval)).run P c.w=.ok (.value y) c'.w/\c'.Z=c.Z/\Ext c c'/\SR E c'/\VR c' v y:=by
 unfold appLit at h
 split at h
 case h_2=>cases h
 rename_i x hx
 split at h
 case h_2=>cases h
 rename_i vs hvs
 split at h
 case h_2=>cases h
 rename_i u σ1 hb
 have hin:=args_in (g:=true) (l:=[]) hs hvs (evalOs_sound hf hx) (.inl rfl)
 obtain⟨d,y,h1,h2,h3,h4,h5⟩:=builtin_sound he (inner_sr hs []) (ty:=ty) (consts:=consts) (c:=c.inner (c.kills [])) hb hin
 rw[<- h2]at h
 obtain⟨g1,g2,g3⟩:=return_ok hs h3 h4 h5 h
 refine⟨(c.kills []).outer d.w,y,?_,rfl,g1,g2,g3⟩
 rw[show args.map a.eval=(List.map a.eval args.toList).toArray from by apply Array.ext';simp]
 exact h1
theorem op_sound (he:EnvOk P E)(hfs:FnsOk P E)(hev:RunOk P E ev) {c:Cx}(hs:SR E c) {fr:Fr}{a:Act}(hf:FR c fr a.tmps) {dr:Fz}{o:Oper}{v:V}{σ':Sg}(h:opV E ev dr o.op fr c.Z=some (v,σ'))
  {next:Act->World->Prop}{Q:Exit->Act->World->Prop}(hn:∀x w',Back E c v σ' x w'->next (a.put o.dst x) w'):o.wp P a c.w next Q:=by
 have plain:plainOp E fr c.Z o.op=some (v,σ')->o.wp P a c.w next Q:=λh=>by
  obtain⟨c',x,h1,h2,h3,h4,h5⟩:=plainOp_sound he hs hf h
  unfold Oper.wp
  rcases h1 with h1 | ⟨h1,rfl⟩
  ·rw[h1]
   exact hn _ _ ⟨c',rfl,h2,h3,h4,h5⟩
  ·rw[h1]
   exact hn _ _ ⟨c',rfl,h2,h3,h4,h5⟩
 unfold opV at h
 split at h
 ·rename_i f args ats hop
  split at h
  case h_2=>cases h
  rename_i k first cap l hk hl
  have hfv:=evalO_sound hf hk
  obtain⟨xs,ys,hx,h1,h2⟩:=hfv.fn_inv
  have h3:=evalOs_sound hf hl
  have hrun:=callF_sound he hfs hev hs ((h1.append h3).append h2) h
  have hex:(execOp a.eval o).run P c.w=(callFunc k (xs++List.map a.eval args.toList++ys).toArray).run P c.w:=by
   have e:xs.toArray++Array.map a.eval args++ys.toArray=(xs++List.map a.eval args.toList++ys).toArray:=by apply Array.ext';simp
   simp only[execOp,hop,resolve,hx,Deferred.ofValue,invoke,Sem.run_bind,Sem.run_pure,Result.andThen_ok,e]
  unfold Oper.wp
  rw[hex]
  rcases hrun with⟨r1,r2⟩ | ⟨x,w',r1,r2⟩
  ·rw[r1,Oper.upon_enter]
   refine r2.mono ?_
   rintro e w' ⟨x,rfl,hb⟩
   exact hn _ _ hb
  ·rw[r1]
   exact hn _ _ r2
 ·rename_i t len parts hop
  split at h
  ·cases hl:litOp E fr t len parts.toList with
   |none=>rw[hl]at h;cases h
   |some u=>
    rw[hl]at h;injection h with h;injection h with e1 e2;subst e1 e2
    obtain⟨c',x,h1,h2,h3,h4,h5⟩:=lit_sound he hs hf hl
    unfold Oper.wp
    have hex:(execOp a.eval o).run P c.w=.ok (.value x) c'.w:=by
     simp only[execOp,hop,Sem.run_bind,Sem.run_pure]
     rw[h1];rfl
    rw[hex]
    exact hn _ _ ⟨c',rfl,h2,h3,h4,h5⟩
  ·rename_i hd
   exact plain h
 ·rename_i args ats hop
  split at h
  ·cases hl:appLit E fr c.Z args.toList ats with
   |none=>rw[hl]at h;cases h
   |some u=>
    rw[hl]at h;injection h with h;injection h with e1 e2;subst e1 e2
    obtain⟨c',x,h1,h2,h3,h4,h5⟩:=app_sound he hs hf hl (ty:=o.type) (consts:=args.map fun | .const _=>true | _=>false)
    unfold Oper.wp
    have hex:(execOp a.eval o).run P c.w=.ok (.value x) c'.w:=by
     simp only[execOp,hop,resolve,invoke,Sem.run_bind,Sem.run_pure,Result.andThen_ok]
     exact h1
    rw[hex]
    exact hn _ _ ⟨c',rfl,h2,h3,h4,h5⟩
  ·exact plain h
 ·exact plain h
theorem evL_sound (he:EnvOk P E)(hfs:FnsOk P E)(hev:RunOk P E ev) {ops:Array Oper}{dr:Fz}:∀(l:List Nat) {c:Cx}{fr:Fr}{a:Act}{fr':Fr}{σ':Sg},SR E c->FR c fr a.tmps->a.defers=[] ->
  evL E ev dr ops l fr c.Z=some (fr',σ')->∀(c0:Cx),Ext c0 c->wpOps P ops (Post E c0 .normal fr' σ') l a c.w
 | [],c,fr,a,fr',σ',hs,hf,hd,h,c0,hx=>by
  simp only[evL]at h
  injection h with h;injection h with h1 h2;subst h1 h2
  exact⟨rfl,hd,c,rfl,rfl,hx,hs,hf⟩
 |i::l,c,fr,a,fr',σ',hs,hf,hd,h,c0,hx=>by
  simp only[evL]at h
  simp only[wpOps]
  cases ho:ops[i]? with
  |none=>
   rw[ho]at h
   exact evL_sound he hfs hev l hs hf hd h c0 hx
  |some o=>
   rw[ho]at h
   dsimp only at h ⊢
   rw[wants_eq hf]
   split at h
   case h_2=>cases h
   rename_i fr1 σ1 hst
   unfold stepO at hst
   simp only[opW_eq]at hst
   split at hst
   ·rename_i hw
    rw[if_pos hw]
    left
    split at hst
    case h_2=>cases hst
    rename_i v σ2 hop
    injection hst with hst;injection hst with e1 e2;subst e1 e2
    refine op_sound he hfs hev hs hf hop ?_
    rintro x w' ⟨c',rfl,rfl,k1,k2,k3⟩
    exact evL_sound he hfs hev l k2 (FR.put (FR.mono k1 hf) k3 o.dst) (by rw[put_defers];exact hd) h c0 (hx.trans k1)
   ·rename_i hw
    rw[if_neg hw]
    injection hst with hst;injection hst with e1 e2;subst e1 e2
    exact evL_sound he hfs hev l hs (hf.put .undef o.dst) (by rw[put_defers];exact hd) h c0 hx
theorem evOps_evL {ops:Array Oper}{dr:Fz}:∀(rest:List Oper) (k:Nat) (fr:Fr) (Z:Sg),ops.toList.drop k=rest->evOps E ev dr ops rest fr Z=evL E ev dr ops (List.range' k rest.length) fr Z
 | [],k,fr,Z,_=>rfl
 |o::rest,k,fr,Z,h=>by
  have ho:ops[k]?=some o:=by
   have:(ops.toList.drop k)[0]?=some o:=by rw[h];rfl
   simpa using this
  have hr:ops.toList.drop (k+1)=rest:=by
   have:=congrArg List.tail h
   simpa using this
  simp only[evOps,List.length_cons,List.range'_succ,evL,ho]
  cases stepO E ev dr ops o fr Z with
  |none=>rfl
  |some r=>exact evOps_evL rest (k+1) _ _ hr
end
end
theorem all2_eq {α:Type}{f:α->α->Bool}(hf:∀a b,f a b=true->a=b):∀{x y:List α},all2 f x y=true->x=y
 | [],[],_=>rfl
 |a::x,b::y,h=>by
  simp only[all2,Bool.and_eq_true]at h
  rw[hf a b h.1,all2_eq hf h.2]
 | [],_::_,h=>by cases h
 |_::_,[],h=>by cases h
theorem seq_eq':∀{a b:List Nat},seq a b=true->a=b
 | [],[],_=>rfl
 |x::a,y::b,h=>by
  simp only[seq_cons,Bool.and_eq_true,decide_eq_true_eq]at h
  rw[h.1,seq_eq' h.2]
 | [],_::_,h=>by cases h
 |_::_,[],h=>by cases h
theorem veq_eq:∀(n:Nat) {u v:V},veq n u v=true->u=v
 |0,_,_,h=>by cases h
 |n+1,u,v,h=>by
  have ih:=λa b=>veq_eq n (u:=a) (v:=b)
  unfold veq at h
  split at h <;> try rfl
  ·have:=eq_of_beq h;subst this;rfl
  ·simp only[Bool.and_eq_true,decide_eq_true_eq]at h;rw[h.1,h.2]
  ·rw[seq_eq' h]
  ·simp only[Bool.and_eq_true,beq_iff_eq]at h
   rw[h.1.1,h.2,all2_eq (λa b h=>all2_eq ih h) h.1.2]
  ·simp only[Bool.and_eq_true,beq_iff_eq]at h
   rw[h.1,all2_eq ih h.2]
  ·simp only[Bool.and_eq_true,beq_iff_eq]at h
   rw[h.1,all2_eq (λa b h=>by
    simp only[Bool.and_eq_true]at h
    exact Prod.ext (ih _ _ h.1) (ih _ _ h.2)) h.2]
  ·simp only[Bool.and_eq_true,decide_eq_true_eq]at h;rw[h.1,h.2]
  ·simp only[Bool.and_eq_true,decide_eq_true_eq]at h;rw[h.1.1,h.1.2,h.2]
  ·simp only[Bool.and_eq_true,decide_eq_true_eq]at h;rw[h.1.1.1,h.1.1.2,h.1.2,h.2]
  ·simp only[decide_eq_true_eq]at h;rw[h]
  ·simp only[Bool.and_eq_true,decide_eq_true_eq]at h;rw[h.1.1,all2_eq ih h.1.2,all2_eq ih h.2]
  ·rw[all2_eq ih h]
  ·rw[all2_eq ih h]
  ·cases h
def Same (fr fr':Fr) (l:List Nat):Prop:=∀t∈l,fr.get t=fr'.get t
theorem evalO_congr {fr fr':Fr}{o:Operand}{l:List Operand}(h:Same fr fr' (tmpsOf l))(ho:o∈l):evalO fr o=evalO fr' o:=by
 cases o with
 |tmp t=>
  simp only[evalO]
  refine h t ?_
  induction l with
  |nil=>cases ho
  |cons x l ih=>
   rcases List.mem_cons.1 ho with rfl | ho'
   ·simp[tmpsOf]
   ·cases x with
    |tmp u=>simp only[tmpsOf,List.mem_cons];exact .inr (ih (λt ht=>h t (by simp[tmpsOf,ht])) ho')
    |_=>exact ih h ho'
 |_=>rfl
theorem evalOs_congr {fr fr':Fr}{l:List Operand}(h:Same fr fr' (tmpsOf l)):∀{os:List Operand},(∀o∈os,o∈l)->evalOs fr os=evalOs fr' os
 | [],_=>rfl
 |o::os,ho=>by
  simp only[evalOs,evalO_congr h (ho o (by simp)),evalOs_congr h (os:=os) (λx hx=>ho x (by simp[hx]))]
theorem evalPs_congr {fr fr':Fr}{l:List Operand}(h:Same fr fr' (tmpsOf l)):∀{os:List (Nat × Operand)},(∀o∈os,o.2∈l)->evalPs fr os=evalPs fr' os
 | [],_=>rfl
 |(i,o)::os,ho=>by
  simp only[evalPs,evalO_congr h (ho (i,o) (by simp)),evalPs_congr h (os:=os) (λx hx=>ho x (by simp[hx]))]
theorem evalX_congr {fr fr':Fr}{l:List Operand}(h:Same fr fr' (tmpsOf l)) {o:Option Operand}(ho:∀x,o=some x->x∈l):evalX fr o=evalX fr' o:=by
 cases o with
 |none=>rfl
 |some x=>simp only[evalX,evalO_congr h (ho x rfl)]
theorem opV_congr {E:Env}{ev:Run}{dr:Fz}{op:Op}{fr fr':Fr}{Z:Sg}(h:Same fr fr' (tmpsOf op.operands.toList)):opV E ev dr op fr Z=opV E ev dr op fr' Z:=by
 have e1:∀{o:Operand},o∈op.operands.toList->evalO fr o=evalO fr' o:=λho=>evalO_congr h ho
 have es:∀{os:List Operand},(∀o∈os,o∈op.operands.toList)->evalOs fr os=evalOs fr' os:=λho=>evalOs_congr h ho
 have ep:∀{os:List (Nat × Operand)},(∀o∈os,o.2∈op.operands.toList)->evalPs fr os=evalPs fr' os:=λho=>evalPs_congr h ho
 have ex:∀{o:Option Operand},(∀x,o=some x->x∈op.operands.toList)->evalX fr o=evalX fr' o:=λho=>evalX_congr h ho
 cases op with
 |call cl=>
  obtain⟨callee,args,ats⟩:=cl
  cases callee with
  |value f=>
   simp only[opV]
   rw[e1 (o:=f) (by simp[Op.operands,Call.operands]),es (os:=args.toList) (λo ho=>by simp[Op.operands,Call.operands];simp at ho;exact .inr ho)]
  |builtin b=>
   have e:=es (os:=args.toList) (λo ho=>by simp[Op.operands,Call.operands];simpa using ho)
   cases b <;> simp only[opV,plainOp,oBuiltin,appLit,e]
  |invoke r nm=>rfl
 |build t ps=>
  simp only[opV,plainOp,oPick,oAlloc,oBox,oBuild,oBuildSlice,oLoad,oStore,oNilCheck,oBinOp,oUnOp,oConvert,oRange,oNext,oMakeInterface,oMakeFunc,oMakeMap,oMakeSlice,oSlice,oFieldAddr,oField,oIndexAddr,oIndex,oLookup,oMapUpdate,oExtract,oBuiltin]
  rw[ep (os:=ps.toList) (λo ho=>by simp only[Op.operands];simp;simp at ho;exact⟨_,ho⟩)]
 |buildSlice t len ps=>
  simp only[opV,plainOp,oBuildSlice,litOp]
  rw[ep (os:=ps.toList) (λo ho=>by simp only[Op.operands];simp;simp at ho;exact⟨_,ho⟩)]
 |makeFunc f a b=>
  cases f with
  |func f=>
   simp only[opV,plainOp,oPick,oAlloc,oBox,oBuild,oBuildSlice,oLoad,oStore,oNilCheck,oBinOp,oUnOp,oConvert,oRange,oNext,oMakeInterface,oMakeFunc,oMakeMap,oMakeSlice,oSlice,oFieldAddr,oField,oIndexAddr,oIndex,oLookup,oMapUpdate,oExtract,oBuiltin]
   rw[es (os:=a.toList) (λo ho=>by simp[Op.operands];simp at ho;exact .inl ho),es (os:=b.toList) (λo ho=>by simp[Op.operands];simp at ho;exact .inr ho)]
  |_=>rfl
 |makeMap t r=>
  simp only[opV,plainOp,oPick,oAlloc,oBox,oBuild,oBuildSlice,oLoad,oStore,oNilCheck,oBinOp,oUnOp,oConvert,oRange,oNext,oMakeInterface,oMakeFunc,oMakeMap,oMakeSlice,oSlice,oFieldAddr,oField,oIndexAddr,oIndex,oLookup,oMapUpdate,oExtract,oBuiltin]
  rw[ex (o:=r) (λx hx=>by simp[Op.operands,hx])]
 |slice t x a b m=>
  simp only[opV,plainOp,oPick,oAlloc,oBox,oBuild,oBuildSlice,oLoad,oStore,oNilCheck,oBinOp,oUnOp,oConvert,oRange,oNext,oMakeInterface,oMakeFunc,oMakeMap,oMakeSlice,oSlice,oFieldAddr,oField,oIndexAddr,oIndex,oLookup,oMapUpdate,oExtract,oBuiltin]
  rw[e1 (o:=x) (by simp[Op.operands]),ex (o:=a) (λx hx=>by simp[Op.operands,hx]),ex (o:=b) (λx hx=>by simp[Op.operands,hx]),ex (o:=m) (λx hx=>by simp[Op.operands,hx])]
 |pick x y z=>simp only[opV,plainOp,oPick,oAlloc,oBox,oBuild,oBuildSlice,oLoad,oStore,oNilCheck,oBinOp,oUnOp,oConvert,oRange,oNext,oMakeInterface,oMakeFunc,oMakeMap,oMakeSlice,oSlice,oFieldAddr,oField,oIndexAddr,oIndex,oLookup,oMapUpdate,oExtract,oBuiltin];rw[e1 (o:=x) (by simp[Op.operands]),e1 (o:=y) (by simp[Op.operands]),e1 (o:=z) (by simp[Op.operands])]
 |mapUpdate t x y z=>simp only[opV,plainOp,oPick,oAlloc,oBox,oBuild,oBuildSlice,oLoad,oStore,oNilCheck,oBinOp,oUnOp,oConvert,oRange,oNext,oMakeInterface,oMakeFunc,oMakeMap,oMakeSlice,oSlice,oFieldAddr,oField,oIndexAddr,oIndex,oLookup,oMapUpdate,oExtract,oBuiltin];rw[e1 (o:=x) (by simp[Op.operands]),e1 (o:=y) (by simp[Op.operands]),e1 (o:=z) (by simp[Op.operands])]
 |insert t x y z=>simp only[opV,plainOp,oPick,oAlloc,oBox,oBuild,oBuildSlice,oLoad,oStore,oNilCheck,oBinOp,oUnOp,oConvert,oRange,oNext,oMakeInterface,oMakeFunc,oMakeMap,oMakeSlice,oSlice,oFieldAddr,oField,oIndexAddr,oIndex,oLookup,oMapUpdate,oExtract,oBuiltin];rw[e1 (o:=x) (by simp[Op.operands]),e1 (o:=y) (by simp[Op.operands]),e1 (o:=z) (by simp[Op.operands])]
 |store t x y=>simp only[opV,plainOp,oPick,oAlloc,oBox,oBuild,oBuildSlice,oLoad,oStore,oNilCheck,oBinOp,oUnOp,oConvert,oRange,oNext,oMakeInterface,oMakeFunc,oMakeMap,oMakeSlice,oSlice,oFieldAddr,oField,oIndexAddr,oIndex,oLookup,oMapUpdate,oExtract,oBuiltin];rw[e1 (o:=x) (by simp[Op.operands]),e1 (o:=y) (by simp[Op.operands])]
 |binOp b t x y q=>simp only[opV,plainOp,oPick,oAlloc,oBox,oBuild,oBuildSlice,oLoad,oStore,oNilCheck,oBinOp,oUnOp,oConvert,oRange,oNext,oMakeInterface,oMakeFunc,oMakeMap,oMakeSlice,oSlice,oFieldAddr,oField,oIndexAddr,oIndex,oLookup,oMapUpdate,oExtract,oBuiltin];rw[e1 (o:=x) (by simp[Op.operands]),e1 (o:=y) (by simp[Op.operands])]
 |makeSlice t x y=>simp only[opV,plainOp,oPick,oAlloc,oBox,oBuild,oBuildSlice,oLoad,oStore,oNilCheck,oBinOp,oUnOp,oConvert,oRange,oNext,oMakeInterface,oMakeFunc,oMakeMap,oMakeSlice,oSlice,oFieldAddr,oField,oIndexAddr,oIndex,oLookup,oMapUpdate,oExtract,oBuiltin];rw[e1 (o:=x) (by simp[Op.operands]),e1 (o:=y) (by simp[Op.operands])]
 |indexAddr t x y=>simp only[opV,plainOp,oPick,oAlloc,oBox,oBuild,oBuildSlice,oLoad,oStore,oNilCheck,oBinOp,oUnOp,oConvert,oRange,oNext,oMakeInterface,oMakeFunc,oMakeMap,oMakeSlice,oSlice,oFieldAddr,oField,oIndexAddr,oIndex,oLookup,oMapUpdate,oExtract,oBuiltin];rw[e1 (o:=x) (by simp[Op.operands]),e1 (o:=y) (by simp[Op.operands])]
 |index t x y=>simp only[opV,plainOp,oPick,oAlloc,oBox,oBuild,oBuildSlice,oLoad,oStore,oNilCheck,oBinOp,oUnOp,oConvert,oRange,oNext,oMakeInterface,oMakeFunc,oMakeMap,oMakeSlice,oSlice,oFieldAddr,oField,oIndexAddr,oIndex,oLookup,oMapUpdate,oExtract,oBuiltin];rw[e1 (o:=x) (by simp[Op.operands]),e1 (o:=y) (by simp[Op.operands])]
 |lookup t x y q=>simp only[opV,plainOp,oPick,oAlloc,oBox,oBuild,oBuildSlice,oLoad,oStore,oNilCheck,oBinOp,oUnOp,oConvert,oRange,oNext,oMakeInterface,oMakeFunc,oMakeMap,oMakeSlice,oSlice,oFieldAddr,oField,oIndexAddr,oIndex,oLookup,oMapUpdate,oExtract,oBuiltin];rw[e1 (o:=x) (by simp[Op.operands]),e1 (o:=y) (by simp[Op.operands])]
 |move x=>simp only[opV,plainOp,oPick,oAlloc,oBox,oBuild,oBuildSlice,oLoad,oStore,oNilCheck,oBinOp,oUnOp,oConvert,oRange,oNext,oMakeInterface,oMakeFunc,oMakeMap,oMakeSlice,oSlice,oFieldAddr,oField,oIndexAddr,oIndex,oLookup,oMapUpdate,oExtract,oBuiltin];rw[e1 (o:=x) (by simp[Op.operands])]
 |assign x=>simp only[opV,plainOp,oPick,oAlloc,oBox,oBuild,oBuildSlice,oLoad,oStore,oNilCheck,oBinOp,oUnOp,oConvert,oRange,oNext,oMakeInterface,oMakeFunc,oMakeMap,oMakeSlice,oSlice,oFieldAddr,oField,oIndexAddr,oIndex,oLookup,oMapUpdate,oExtract,oBuiltin];rw[e1 (o:=x) (by simp[Op.operands])]
 |box t x=>simp only[opV,plainOp,oPick,oAlloc,oBox,oBuild,oBuildSlice,oLoad,oStore,oNilCheck,oBinOp,oUnOp,oConvert,oRange,oNext,oMakeInterface,oMakeFunc,oMakeMap,oMakeSlice,oSlice,oFieldAddr,oField,oIndexAddr,oIndex,oLookup,oMapUpdate,oExtract,oBuiltin];rw[e1 (o:=x) (by simp[Op.operands])]
 |range t x=>simp only[opV,plainOp,oPick,oAlloc,oBox,oBuild,oBuildSlice,oLoad,oStore,oNilCheck,oBinOp,oUnOp,oConvert,oRange,oNext,oMakeInterface,oMakeFunc,oMakeMap,oMakeSlice,oSlice,oFieldAddr,oField,oIndexAddr,oIndex,oLookup,oMapUpdate,oExtract,oBuiltin];rw[e1 (o:=x) (by simp[Op.operands])]
 |next x b=>cases b with
  |false=>rfl
  |true=>simp only[opV,plainOp,oPick,oAlloc,oBox,oBuild,oBuildSlice,oLoad,oStore,oNilCheck,oBinOp,oUnOp,oConvert,oRange,oNext,oMakeInterface,oMakeFunc,oMakeMap,oMakeSlice,oSlice,oFieldAddr,oField,oIndexAddr,oIndex,oLookup,oMapUpdate,oExtract,oBuiltin];rw[e1 (o:=x) (by simp[Op.operands])]
 |entry x=>simp only[opV,plainOp,oEntry];rw[e1 (o:=x) (by simp[Op.operands])]
 |load t x=>simp only[opV,plainOp,oPick,oAlloc,oBox,oBuild,oBuildSlice,oLoad,oStore,oNilCheck,oBinOp,oUnOp,oConvert,oRange,oNext,oMakeInterface,oMakeFunc,oMakeMap,oMakeSlice,oSlice,oFieldAddr,oField,oIndexAddr,oIndex,oLookup,oMapUpdate,oExtract,oBuiltin];rw[e1 (o:=x) (by simp[Op.operands])]
 |nilCheck x=>simp only[opV,plainOp,oPick,oAlloc,oBox,oBuild,oBuildSlice,oLoad,oStore,oNilCheck,oBinOp,oUnOp,oConvert,oRange,oNext,oMakeInterface,oMakeFunc,oMakeMap,oMakeSlice,oSlice,oFieldAddr,oField,oIndexAddr,oIndex,oLookup,oMapUpdate,oExtract,oBuiltin];rw[e1 (o:=x) (by simp[Op.operands])]
 |unOp b t x=>simp only[opV,plainOp,oPick,oAlloc,oBox,oBuild,oBuildSlice,oLoad,oStore,oNilCheck,oBinOp,oUnOp,oConvert,oRange,oNext,oMakeInterface,oMakeFunc,oMakeMap,oMakeSlice,oSlice,oFieldAddr,oField,oIndexAddr,oIndex,oLookup,oMapUpdate,oExtract,oBuiltin];rw[e1 (o:=x) (by simp[Op.operands])]
 |convert s d x=>simp only[opV,plainOp,oPick,oAlloc,oBox,oBuild,oBuildSlice,oLoad,oStore,oNilCheck,oBinOp,oUnOp,oConvert,oRange,oNext,oMakeInterface,oMakeFunc,oMakeMap,oMakeSlice,oSlice,oFieldAddr,oField,oIndexAddr,oIndex,oLookup,oMapUpdate,oExtract,oBuiltin];rw[e1 (o:=x) (by simp[Op.operands])]
 |makeInterface t x=>simp only[opV,plainOp,oPick,oAlloc,oBox,oBuild,oBuildSlice,oLoad,oStore,oNilCheck,oBinOp,oUnOp,oConvert,oRange,oNext,oMakeInterface,oMakeFunc,oMakeMap,oMakeSlice,oSlice,oFieldAddr,oField,oIndexAddr,oIndex,oLookup,oMapUpdate,oExtract,oBuiltin];rw[e1 (o:=x) (by simp[Op.operands])]
 |fieldAddr t x f=>simp only[opV,plainOp,oPick,oAlloc,oBox,oBuild,oBuildSlice,oLoad,oStore,oNilCheck,oBinOp,oUnOp,oConvert,oRange,oNext,oMakeInterface,oMakeFunc,oMakeMap,oMakeSlice,oSlice,oFieldAddr,oField,oIndexAddr,oIndex,oLookup,oMapUpdate,oExtract,oBuiltin];rw[e1 (o:=x) (by simp[Op.operands])]
 |field t x f=>simp only[opV,plainOp,oPick,oAlloc,oBox,oBuild,oBuildSlice,oLoad,oStore,oNilCheck,oBinOp,oUnOp,oConvert,oRange,oNext,oMakeInterface,oMakeFunc,oMakeMap,oMakeSlice,oSlice,oFieldAddr,oField,oIndexAddr,oIndex,oLookup,oMapUpdate,oExtract,oBuiltin];rw[e1 (o:=x) (by simp[Op.operands])]
 |extract x i=>simp only[opV,plainOp,oPick,oAlloc,oBox,oBuild,oBuildSlice,oLoad,oStore,oNilCheck,oBinOp,oUnOp,oConvert,oRange,oNext,oMakeInterface,oMakeFunc,oMakeMap,oMakeSlice,oSlice,oFieldAddr,oField,oIndexAddr,oIndex,oLookup,oMapUpdate,oExtract,oBuiltin];rw[e1 (o:=x) (by simp[Op.operands])]
 |_=>rfl
theorem builtin_len_same {E:Env}{Z:Sg}{ats:Array Nat}{vs:List V}{v:V}{σ':Sg}(h:Ax.builtin E Z .len ats vs=some (v,σ')):σ'=Z:=by
 cases vs with
 |nil=>cases h
 |cons x r=>
  cases r with
  |cons=>cases h
  |nil=>
   simp only[Ax.builtin]at h
   repeat' (split at h)
   all_goals first
    |(injection h with h;injection h with _ h;exact h.symm)
    |cases h
theorem builtin_data_still {E:Env}{Z:Sg}{ats:Array Nat}{vs:List V}{v:V}{σ':Sg}(h:Ax.builtin E Z .unsafeSliceData ats vs=some (v,σ')):σ'=Z:=by
 unfold Ax.builtin at h
 split at h <;> try contradiction
 ·split at h
  ·cases h
  ·injection h with h;injection h with _ h;exact h.symm
 ·injection h with h;injection h with _ h;exact h.symm
theorem builtin_mm {E:Env}{mx:Bool}{Z σ':Sg}{ats:Array Nat}{vs:List V}{v:V}(h:Ax.builtin E Z (if mx then .max else .min) ats vs=some (v,σ')):σ'=Z/\∀Y:Sg,Ax.builtin E Y (if mx then .max else .min) ats vs=some (v,Y):=by
 cases vs with
 |nil=>cases mx <;> cases h
 |cons x r=>
  cases x with
  |int k a=>
   cases mx <;>
   ·simp only[Ax.builtin,if_true,if_false,Bool.false_eq_true]at h ⊢
    split at h
    ·injection h with h;injection h with h1 h2;subst h1 h2;exact⟨rfl,λ_=>rfl⟩
    ·cases h
  |_=>cases mx <;> cases h
theorem map_same {α:Type}{o:Option α}{Z:Sg}{r:α × Sg}(h:o.map (·,Z)=some r):r.2=Z/\∀Y:Sg,o.map (·,Y)=some (r.1,Y):=by
 cases o with
 |none=>cases h
 |some x=>injection h with h;subst h;exact⟨rfl,λ_=>rfl⟩
theorem callF_quiet {E:Env}{ev:Run}{f:Nat}{vs:List V}{Z σ':Sg}{v:V}(h0:E.hspec f=none)(h1:(E.spec f).isSome=true\/(E.spec f=none/\E.mode f=.iso))(h:callF E ev f vs Z=some (v,σ')):σ'=Z:=by
 unfold callF at h
 rw[h0]at h
 dsimp only at h
 rcases h1 with h1 | ⟨h1,h2⟩
 ·obtain⟨s,hs⟩:=Option.isSome_iff_exists.1 h1
  rw[hs]at h
  dsimp only at h
  repeat' (split at h)
  all_goals first
   |(injection h with h;injection h with _ h;exact h.symm)
   |cases h
 ·rw[h1,h2]at h
  dsimp only at h
  repeat' (split at h)
  all_goals first
   |(injection h with h;injection h with _ h;exact h.symm)
   |(exfalso;apply_assumption;rfl)
   |(cases h;done)
theorem opV_quiet {E:Env}{ev:Run}{frz:Fz}{op:Op}{fr:Fr}{Z σ':Sg}{v:V}(hw:(effect E frz op).2=false)(h:opV E ev frz op fr Z=some (v,σ')):σ'=Z:=by
 cases op with
 |call cl=>
  obtain⟨callee,args,ats⟩:=cl
  cases callee with
  |value f=>
   cases f with
   |func f=>
    simp only[opV,evalO]at h
    split at h
    case h_2=>cases h
    rename_i k first cap l hk hl
    injection hk with hk;injection hk with e1 e2 e3;subst e1 e2 e3
    simp only[effect]at hw
    split at hw
    ·rename_i s h1 h2
     exact callF_quiet h1 (.inl (by rw[h2];rfl)) h
    ·rename_i h1 h2 h3
     exact callF_quiet h1 (.inr ⟨h2,h3⟩) h
    ·cases hw
   |_=>cases hw
  |builtin b=>
   cases b with
   |len=>
    simp only[opV,plainOp,oBuiltin]at h
    split at h
    case h_2=>cases h
    exact builtin_len_same h
   |unsafeSliceData=>
    simp only[opV,plainOp,oBuiltin]at h
    split at h
    case h_2=>cases h
    exact builtin_data_still h
   |min=>
    simp only[opV,plainOp,oBuiltin]at h
    split at h
    case h_2=>cases h
    exact (builtin_mm (mx:=false) h).1
   |max=>
    simp only[opV,plainOp,oBuiltin]at h
    split at h
    case h_2=>cases h
    exact (builtin_mm (mx:=true) h).1
   |append=>
    cases frz with
    |app=>
     simp only[opV,Fz.apps,if_true]at h
     exact (map_same h).1
    |_=>cases hw
   |_=>cases hw
  |invoke r nm=>cases h
 |buildSlice t len ps=>
  simp only[opV]at h
  cases frz with
  |no=>cases hw
  |lit=>exact (map_same h).1
  |app=>exact (map_same h).1
 |makeFunc f a b=>
  cases f with
  |func f=>
   simp only[opV,plainOp,oPick,oAlloc,oBox,oBuild,oBuildSlice,oLoad,oStore,oNilCheck,oBinOp,oUnOp,oConvert,oRange,oNext,oMakeInterface,oMakeFunc,oMakeMap,oMakeSlice,oSlice,oFieldAddr,oField,oIndexAddr,oIndex,oLookup,oMapUpdate,oExtract,oBuiltin]at h
   repeat' (split at h)
   all_goals first
    |(injection h with h;injection h with _ h;exact h.symm)
    |cases h
  |_=>cases h
 |move | assign | pick | build | load | nilCheck | binOp | unOp | convert | makeInterface | slice | fieldAddr | field | indexAddr | index | lookup | extract=>
  simp only[opV,plainOp,oPick,oAlloc,oBox,oBuild,oBuildSlice,oLoad,oStore,oNilCheck,oBinOp,oUnOp,oConvert,oRange,oNext,oMakeInterface,oMakeFunc,oMakeMap,oMakeSlice,oSlice,oFieldAddr,oField,oIndexAddr,oIndex,oLookup,oMapUpdate,oExtract,oBuiltin]at h
  repeat' (split at h)
  all_goals first
   |(injection h with h;injection h with _ h;exact h.symm)
   |exact (map_same h).1
   |cases h
 |_=>cases hw
theorem opV_still {E:Env}{ev:Run}{frz:Fz}{op:Op}{fr:Fr}{Z σ':Sg}{v:V}(hr:(effect E frz op).1=false)(hw:(effect E frz op).2=false)(h:opV E ev frz op fr Z=some (v,σ')) (Y:Sg):opV E ev frz op fr Y=some (v,Y):=by
 cases op with
 |call cl=>
  obtain⟨callee,args,ats⟩:=cl
  cases callee with
  |value f=>
   cases f with
   |func f=>
    simp only[effect]at hr
    split at hr <;> cases hr
   |_=>cases hr
  |builtin b=>
   cases b with
   |min=>
    simp only[opV,plainOp,oBuiltin]at h ⊢
    split at h
    case h_2=>cases h
    exact (builtin_mm (mx:=false) h).2 Y
   |max=>
    simp only[opV,plainOp,oBuiltin]at h ⊢
    split at h
    case h_2=>cases h
    exact (builtin_mm (mx:=true) h).2 Y
   |_=>cases hr
  |invoke r nm=>cases h
 |buildSlice t len ps=>
  simp only[opV]at h ⊢
  cases frz with
  |no=>cases hw
  |lit=>exact (map_same h).2 Y
  |app=>exact (map_same h).2 Y
 |makeFunc f a b=>
  cases f with
  |func f=>
   simp only[opV,plainOp,oPick,oAlloc,oBox,oBuild,oBuildSlice,oLoad,oStore,oNilCheck,oBinOp,oUnOp,oConvert,oRange,oNext,oMakeInterface,oMakeFunc,oMakeMap,oMakeSlice,oSlice,oFieldAddr,oField,oIndexAddr,oIndex,oLookup,oMapUpdate,oExtract,oBuiltin]at h ⊢
   repeat' (split at h)
   all_goals first
    |(injection h with h;injection h with h _;subst h;rfl)
    |cases h
  |_=>cases h
 |move | assign | pick | build | nilCheck | binOp | unOp | makeInterface | fieldAddr | field | indexAddr | index | extract=>
  simp only[opV,plainOp,oPick,oAlloc,oBox,oBuild,oBuildSlice,oLoad,oStore,oNilCheck,oBinOp,oUnOp,oConvert,oRange,oNext,oMakeInterface,oMakeFunc,oMakeMap,oMakeSlice,oSlice,oFieldAddr,oField,oIndexAddr,oIndex,oLookup,oMapUpdate,oExtract,oBuiltin]at h ⊢
  repeat' (split at h)
  all_goals first
   |(injection h with h;injection h with h _;subst h;first | rfl | (split <;> first | rfl | contradiction))
   |exact (map_same h).2 Y
   |cases h
 |_=>cases hr
section
theorem first_or (p:Nat->Prop) [DecidablePred p] (j:Nat):∀i,j<=i->(∀k,j<=k->k<i->¬ p k)\/∃a,j<=a/\a<i/\p a/\∀k,j<=k->k<a->¬ p k:=by
 intro i
 induction i with
 |zero=>intro h;exact .inl λk _ hk=>by omega
 |succ i ih=>
  intro h
  rcases Nat.lt_or_ge i j with hj | hj
  ·exact .inl λk h1 h2=>by omega
  ·rcases ih hj with h' | ⟨a,h1,h2,h3,h4⟩
   ·by_cases hp:p i
    ·exact .inr ⟨i,hj,by omega,hp,h'⟩
    ·refine .inl λk h1 h2=>?_
     rcases Nat.lt_or_ge k i with hk | hk
     ·exact h' k h1 hk
     ·have:k=i:=by omega
      subst this;exact hp
   ·exact .inr ⟨a,h1,by omega,h3,h4⟩
theorem last_or (p:Nat->Prop) [DecidablePred p] (j:Nat):∀i,j<=i->(∀k,j<=k->k<i->¬ p k)\/∃a,j<=a/\a<i/\p a/\∀k,a<k->k<i->¬ p k:=by
 intro i
 induction i with
 |zero=>intro h;exact .inl λk _ hk=>by omega
 |succ i ih=>
  intro h
  rcases Nat.lt_or_ge i j with hj | hj
  ·exact .inl λk h1 h2=>by omega
  ·by_cases hp:p i
   ·exact .inr ⟨i,hj,by omega,hp,λk h1 h2=>by omega⟩
   ·rcases ih hj with h' | ⟨a,h1,h2,h3,h4⟩
    ·refine .inl λk h1 h2=>?_
     rcases Nat.lt_or_ge k i with hk | hk
     ·exact h' k h1 hk
     ·have:k=i:=by omega
      subst this;exact hp
    ·refine .inr ⟨a,h1,by omega,h3,λk h1 h2=>?_⟩
     rcases Nat.lt_or_ge k i with hk | hk
     ·exact h4 k h1 hk
     ·have:k=i:=by omega
      subst this;exact hp
section
variable {E:Env}{ev:Run}{frz:Fz}{ops:Array Oper}{T:Nat->Fr × Sg}{pre:Nat->Nat->Bool}
theorem stepO_out {o:Oper}{fr:Fr}{Z:Sg}{q:Fr × Sg}(h:stepO E ev frz ops o fr Z=some q):∃v,q.1=putS fr o.dst v:=by
 unfold stepO at h
 simp only[opW_eq]at h
 split at h
 ·split at h
  ·injection h with h;subst h;exact⟨_,rfl⟩
  ·cases h
 ·injection h with h;subst h;exact⟨_,rfl⟩
theorem putS_len (fr:Fr) (d:Option Nat) (v:V):(putS fr d v).n=fr.n:=by cases d <;> simp[putS,Fr.put_n]
theorem putS_other {fr:Fr}{d:Option Nat}{v:V}{t:Nat}(h:d≠some t):(putS fr d v).get t=fr.get t:=by
 cases d with
 |none=>rfl
 |some d=>
  simp only[putS]
  rw[Fr.get_put,if_neg (λe=>h (by rw[e.1]))]
theorem stepO_quiet {o:Oper}{fr:Fr}{Z:Sg}{q:Fr × Sg}(hw:(effect E frz o.op).2=false)(h:stepO E ev frz ops o fr Z=some q):q.2=Z:=by
 unfold stepO at h
 simp only[opW_eq]at h
 split at h
 ·split at h
  ·rename_i v σ' hv
   injection h with h;subst h;exact opV_quiet hw hv
  ·cases h
 ·injection h with h;subst h;rfl
structure Dr (E:Env) (ev:Run) (frz:Fz) (ops:Array Oper) (T:Nat->Fr × Sg) (pre:Nat->Nat->Bool):Prop where
 step:∀i o,ops[i]?=some o->stepO E ev frz ops o (T i).1 (T i).2=some (T (i+1))
 edge:∀i o,ops[i]?=some o->∀k,pre i k=true->∃e∈o.after.toList,Region.binds .any e=true/\(k=e.on\/pre e.on k=true)
 lt:∀i o,ops[i]?=some o->∀e∈o.after.toList,Region.binds .any e=true->e.on<i
 pair:∀i j x y,i<j->ops[i]?=some x->ops[j]?=some y->pre j i=true \/
  (pairOk E frz ops x y=true/\((effect E frz x.op).2=true->(effect E frz y.op).1=true->again E ev frz ops y (T j).1 (T j).2 (T i).2=true) /\
   ((effect E frz x.op).1=true->(effect E frz y.op).2=true->again E ev frz ops x (T i).1 (T i).2 (T (j+1)).2=true))
structure Inv (E:Env) (frz:Fz) (ops:Array Oper) (T:Nat->Fr × Sg) (pre:Nat->Nat->Bool) (L:Array Bool) (fr:Fr) (Z:Sg):Prop where
 size:L.size=ops.size
 down:∀i k,L[i]?=some true->pre i k=true->L[k]?=some true
 len:fr.n=(T 0).1.n
 fr:∀t j,j<=ops.size->(∀k o,ops[k]?=some o->o.dst=some t->(k<j ↔ L[k]?=some true))->fr.get t=(T j).1.get t
 Z:∀j,j<=ops.size->(∀k o,ops[k]?=some o->(effect E frz o.op).2=true->(k<j ↔ L[k]?=some true))->Z=(T j).2
theorem op_some {k j:Nat}(h:k<j)(hj:j<=ops.size):∃o,ops[k]?=some o:=⟨ops[k],Array.getElem?_eq_getElem (by omega)⟩
theorem op_lt {k:Nat}{o:Oper}(h:ops[k]?=some o):k<ops.size:=by
 rcases Nat.lt_or_ge k ops.size with g | g
 ·exact g
 ·rw[Array.getElem?_eq_none g]at h;cases h
theorem Dr.len (h:Dr E ev frz ops T pre):∀j,j<=ops.size->(T j).1.n=(T 0).1.n
 |0,_=>rfl
 |j+1,hj=>by
  obtain⟨o,ho⟩:=op_some (Nat.lt_succ_self j) hj
  obtain⟨v,hv⟩:=stepO_out (h.step j o ho)
  rw[hv,putS_len]
  exact h.len j (by omega)
theorem Dr.quietFr (h : Dr E ev frz ops T pre) {t a : Nat} : ∀ b, a <= b -> b <= ops.size -> (∀ k o, a <= k -> k < b -> ops[k]? = some o -> o.dst ≠ some t) -> (T a).1.get t = (T b).1.get t := by
  intro b
  induction b with
  | zero => intro h1 _ _; have : a = 0 := by omega
            subst this; rfl
  | succ b ih =>
    intro h1 h2 h3
    rcases Nat.lt_or_ge b a with hb | hb
    · have : a = b + 1 := by omega
      subst this; rfl
    · rw [ih hb (by omega) fun k o g1 g2 => h3 k o g1 (by omega)]
      obtain ⟨o, ho⟩ := op_some (Nat.lt_succ_self b) h2
      obtain ⟨v, hv⟩ := stepO_out (h.step b o ho)
      rw [hv, putS_other (h3 b o hb (by omega) ho)]
theorem Dr.quietσ (h : Dr E ev frz ops T pre) {a : Nat} : ∀ b, a <= b -> b <= ops.size -> (∀ k o, a <= k -> k < b -> ops[k]? = some o -> (effect E frz o.op).2 = false) -> (T a).2 = (T b).2 := by
  intro b
  induction b with
  | zero => intro h1 _ _; have : a = 0 := by omega
            subst this; rfl
  | succ b ih =>
    intro h1 h2 h3
    rcases Nat.lt_or_ge b a with hb | hb
    · have : a = b + 1 := by omega
      subst this; rfl
    · rw [ih hb (by omega) fun k o g1 g2 => h3 k o g1 (by omega)]
      obtain ⟨o, ho⟩ := op_some (Nat.lt_succ_self b) h2
      exact (stepO_quiet (h3 b o hb (by omega) ho) (h.step b o ho)).symm
theorem wants_congr {fr fr':Fr}{o:Oper}(h:Same fr fr' (namesOf ops o)):wants ops o fr=wants ops o fr':=by
 unfold wants
 cases hg:o.guard with
 |none=>rfl
 |some p=>
  obtain⟨j,w⟩:=p
  dsimp only
  have:yielded ops fr j=yielded ops fr' j:=by
   unfold yielded
   cases hd:(ops[j]?).bind (·.dst) with
   |none=>rfl
   |some d=>
    simp only[Option.bind_some]
    rw[h d (by simp[namesOf,hg,hd])]
  rw[this]
theorem pairOk_ww {x y:Oper}(h:pairOk E frz ops x y=true)(h1:(effect E frz x.op).2=true)(h2:(effect E frz y.op).2=true):False:=by
 simp[pairOk,h1,h2]at h
theorem pairOk_xn {x y:Oper}{t:Nat}(h:pairOk E frz ops x y=true)(h1:x.dst=some t)(h2:t∈namesOf ops y):False:=by
 simp[pairOk,h1,h2]at h
theorem pairOk_xd {x y:Oper}{t:Nat}(h:pairOk E frz ops x y=true)(h1:x.dst=some t)(h2:y.dst=some t):False:=by
 simp[pairOk,h1,h2]at h
theorem pairOk_yn {x y:Oper}{t:Nat}(h:pairOk E frz ops x y=true)(h1:y.dst=some t)(h2:t∈namesOf ops x):False:=by
 simp[pairOk,h1,h2]at h
theorem Inv.cut (h:Dr E ev frz ops T pre) {L:Array Bool}{fr:Fr}{Z:Sg}(hi:Inv E frz ops T pre L fr Z):∀m,m<=ops.size->∃j,j<=m/\∀k o,k<m->ops[k]?=some o->(effect E frz o.op).2=true->(k<j ↔ L[k]?=some true)
 |0,_=>⟨0,Nat.le_refl _,λk o hk=>by omega⟩
 |m+1,hm=>by
  obtain⟨j,hj,hc⟩:=hi.cut h m (by omega)
  obtain⟨o,ho⟩:=op_some (Nat.lt_succ_self m) hm
  by_cases hw:(effect E frz o.op).2=true/\L[m]?=some true
  ·refine⟨m+1,Nat.le_refl _,λk ok hk hok hwk=>⟨λ_=>?_,λ_=>hk⟩⟩
   rcases Nat.lt_or_ge k m with hkm | hkm
   ·rcases h.pair k m ok o hkm hok ho with hp | ⟨hp,_⟩
    ·exact hi.down m k hw.2 hp
    ·exact (pairOk_ww hp hwk hw.1).elim
   ·have:k=m:=by omega
    subst this;exact hw.2
  ·refine⟨j,by omega,λk ok hk hok hwk=>?_⟩
   rcases Nat.lt_or_ge k m with hkm | hkm
   ·exact hc k ok hkm hok hwk
   ·have:k=m:=by omega
    subst this
    rw[ho]at hok;injection hok with hok;subst hok
    exact⟨λh=>by omega,λh=>(hw ⟨hwk,h⟩).elim⟩
theorem again_eq {o:Oper}{fr:Fr}{Z Y:Sg}{v:V}{σ1:Sg}(hw:(effect E frz o.op).2=false)(h:again E ev frz ops o fr Z Y=true)(hwt:wants ops o fr=true)(hv:opV E ev frz o.op fr Z=some (v,σ1)):opV E ev frz o.op fr Y=some (v,Y):=by
 unfold again at h
 simp only[opW_eq]at h
 rw[hwt,hv]at h
 simp only[Bool.not_true,Bool.false_or]at h
 cases hτ:opV E ev frz o.op fr Y with
 |none=>rw[hτ]at h;cases h
 |some q=>
  obtain⟨u,τ1⟩:=q
  rw[hτ]at h
  dsimp only at h
  rw[<- veq_eq 12 h,opV_quiet hw hτ]
theorem Inv.step (h:Dr E ev frz ops T pre) {L:Array Bool}{fr:Fr}{Z:Sg}(hi:Inv E frz ops T pre L fr Z) {i:Nat}{o:Oper}(ho:ops[i]?=some o)(hL:L[i]?=some false)
  (hready:∀e∈o.after.toList,Region.binds .any e=true->L[e.on]?=some true):∃fr' σ',stepO E ev frz ops o fr Z=some (fr',σ')/\Inv E frz ops T pre (L.setIfInBounds i true) fr' σ':=by
 have hin:=op_lt ho
 have hpre:∀k,pre i k=true->L[k]?=some true:=λk hk=>by
  obtain⟨e,h1,h2,h3⟩:=h.edge i o ho k hk
  rcases h3 with rfl | h3
  ·exact hready e h1 h2
  ·exact hi.down e.on k (hready e h1 h2) h3
 have hno:∀k,L[k]?=some true->pre k i=true->False:=λk h1 h2=>by
  have:=hi.down k i h1 h2
  rw[hL]at this;cases this
 have hne:∀k,L[k]?=some true->k≠i:=λk h1 e=>by subst e;rw[hL]at h1;cases h1
 have hnames:Same fr (T i).1 (namesOf ops o):=λt ht=>by
  refine hi.fr t i (by omega) λk ok hok hd=>⟨λhk=>?_,λhk=>?_⟩
  ·rcases h.pair k i ok o hk hok ho with hp | ⟨hp,_⟩
   ·exact hpre k hp
   ·exact (pairOk_xn hp hd ht).elim
  ·rcases Nat.lt_trichotomy k i with hki | hki | hki
   ·exact hki
   ·exact (hne k hk hki).elim
   ·rcases h.pair i k o ok hki ho hok with hp | ⟨hp,_⟩
    ·exact (hno k hk hp).elim
    ·exact (pairOk_yn hp hd ht).elim
 have hops:Same fr (T i).1 (tmpsOf o.op.operands.toList):=λt ht=>hnames t (by simp[namesOf,ht])
 have hstep:=h.step i o ho
 have hval:∃v σ',stepO E ev frz ops o fr Z=some (putS fr o.dst v,σ')/\(T (i+1)).1=putS (T i).1 o.dst v/\((effect E frz o.op).2=true->σ'=(T (i+1)).2)/\((effect E frz o.op).2=false->σ'=Z):=by
  have hσ:(effect E frz o.op).2=true->Z=(T i).2:=λhw=>by
   refine hi.Z i (by omega) λk ok hok hwk=>⟨λhk=>?_,λhk=>?_⟩
   ·rcases h.pair k i ok o hk hok ho with hp | ⟨hp,_⟩
    ·exact hpre k hp
    ·exact (pairOk_ww hp hwk hw).elim
   ·rcases Nat.lt_trichotomy k i with hki | hki | hki
    ·exact hki
    ·exact (hne k hk hki).elim
    ·rcases h.pair i k o ok hki ho hok with hp | ⟨hp,_⟩
     ·exact (hno k hk hp).elim
     ·exact (pairOk_ww hp hw hwk).elim
  unfold stepO at hstep ⊢
  simp only[opW_eq]at hstep ⊢
  rw[wants_congr hnames]
  by_cases hwt:wants ops o (T i).1=true
  ·rw[if_pos hwt]at hstep ⊢
   split at hstep
   case h_2=>cases hstep
   rename_i v σ1 hv
   injection hstep with hstep
   have e1:(T (i+1)).1=putS (T i).1 o.dst v:=by rw[<- hstep]
   have e2:(T (i+1)).2=σ1:=by rw[<- hstep]
   rw[opV_congr hops]
   cases hw:(effect E frz o.op).2 with
   |true=>
    rw[hσ hw,hv]
    exact⟨v,σ1,rfl,e1,λ_=>e2.symm,λx=>by cases x⟩
   |false=>
    have main:opV E ev frz o.op (T i).1 Z=some (v,Z):=by
     cases hr:(effect E frz o.op).1 with
     |false=>exact opV_still hr hw hv Z
     |true=>
      obtain⟨j,hj,hc⟩:=hi.cut h ops.size (Nat.le_refl _)
      have hc':∀k ok,ops[k]?=some ok->(effect E frz ok.op).2=true->(k<j ↔ L[k]?=some true):=λk ok hok=>hc k ok (op_lt hok) hok
      have hσj:=hi.Z j hj hc'
      rw[hσj]
      rcases Nat.lt_trichotomy j i with hji | rfl | hji
      ·
       rcases first_or (λk=>∃ok,ops[k]?=some ok/\(effect E frz ok.op).2=true) (j:=j) i (by omega) with hn | ⟨a,a1,a2,⟨oa,a3,a4⟩,a5⟩
       ·have e:=h.quietσ i (by omega) (by omega) (a:=j) λk ok k1 k2 hok=>by
         cases hx:(effect E frz ok.op).2 with
         |false=>rfl
         |true=>exact (hn k k1 k2 ⟨ok,hok,hx⟩).elim
        rw[e]
        have:=opV_quiet hw hv
        rw[this]at hv
        exact hv
       ·have e:=h.quietσ a a1 (by omega) (a:=j) λk ok k1 k2 hok=>by
         cases hx:(effect E frz ok.op).2 with
         |false=>rfl
         |true=>exact (a5 k k1 k2 ⟨ok,hok,hx⟩).elim
        rw[e]
        rcases h.pair a i oa o a2 a3 ho with hp | ⟨_,hp,_⟩
        ·have:=(hc' a oa a3 a4).2 (hpre a hp)
         omega
        ·exact again_eq hw (hp a4 hr) hwt hv
      ·have:=opV_quiet hw hv
       rw[this]at hv
       exact hv
      ·rcases last_or (λk=>∃ok,ops[k]?=some ok/\(effect E frz ok.op).2=true) (j:=i) j (by omega) with hn | ⟨b,b1,b2,⟨ob,b3,b4⟩,b5⟩
       ·have e:=h.quietσ j (by omega) hj (a:=i) λk ok k1 k2 hok=>by
         cases hx:(effect E frz ok.op).2 with
         |false=>rfl
         |true=>exact (hn k k1 k2 ⟨ok,hok,hx⟩).elim
        rw[<- e]
        have:=opV_quiet hw hv
        rw[this]at hv
        exact hv
       ·have hbi:i<b:=by
         rcases Nat.lt_or_ge i b with g | g
         ·exact g
         ·have:b=i:=by omega
          subst this
          rw[ho]at b3;injection b3 with b3;subst b3
          rw[hw]at b4;cases b4
        have e:=h.quietσ j (by omega) hj (a:=b+1) λk ok k1 k2 hok=>by
         cases hx:(effect E frz ok.op).2 with
         |false=>rfl
         |true=>exact (b5 k (by omega) k2 ⟨ok,hok,hx⟩).elim
        rw[<- e]
        rcases h.pair i b o ob hbi ho b3 with hp | ⟨_,_,hp⟩
        ·exact (hno b ((hc' b ob b3 b4).1 b2) hp).elim
        ·exact again_eq hw (hp hr b4) hwt hv
    rw[main]
    exact⟨v,Z,rfl,e1,λx=>(by cases x),λ_=>rfl⟩
  ·rw[if_neg hwt]at hstep ⊢
   injection hstep with hstep
   have e1:(T (i+1)).1=putS (T i).1 o.dst .undef:=by rw[<- hstep]
   have e2:(T (i+1)).2=(T i).2:=by rw[<- hstep]
   exact⟨.undef,Z,rfl,e1,λhw=>by rw[e2];exact hσ hw,λ_=>rfl⟩
 obtain⟨v,σ',hs,hT,hσ1,hσ2⟩:=hval
 have hset:∀k,(L.setIfInBounds i true)[k]?=if k=i then some true else L[k]?:=λk=>by
  rw[Array.getElem?_setIfInBounds]
  by_cases e:i=k
  ·subst e
   have:i<L.size:=by rw[hi.size];exact hin
   simp[this]
  ·simp[e,Ne.symm e]
 refine⟨_,_,hs,⟨by simp[hi.size],?_,by rw[putS_len];exact hi.len,?_,?_⟩⟩
 ·intro a k ha hk
  rw[hset]at ha ⊢
  split at ha
  ·rename_i e
   subst e
   split
   ·rfl
   ·exact hpre k hk
  ·split
   ·rfl
   ·exact hi.down a k ha hk
 ·intro t j hj hc
  by_cases hd:o.dst=some t
  ·have hij:i<j:=(hc i o ho hd).2 (by rw[hset];simp)
   rw[<- h.quietFr j (a:=i+1) (by omega) hj λk ok k1 k2 hok hdk=>?_]
   ·rw[hT,hd]
    have hl:fr.n=(T i).1.n:=by rw[hi.len,h.len i (by omega)]
    simp only[putS]
    rw[Fr.get_put,Fr.get_put,hl]
    by_cases e:t=t/\t<(T i).1.n
    ·rw[if_pos e,if_pos e]
    ·rw[if_neg e,if_neg e]
     have:¬ t<(T i).1.n:=λx=>e ⟨rfl,x⟩
     have n1:∀f:Fr,¬ t<f.n->f.get t=none:=λf hf=>by
      cases hg:f.get t with
      |none=>rfl
      |some u=>exact (hf (Fr.get_some hg)).elim
     rw[n1 _ (by rw[hl];exact this),n1 _ this]
   ·have hLk:=(hc k ok hok hdk).1 k2
    rw[hset,if_neg (by omega)]at hLk
    rcases h.pair i k o ok (by omega) ho hok with hp | ⟨hp,_⟩
    ·exact hno k hLk hp
    ·exact pairOk_xd hp hd hdk
  ·rw[putS_other hd]
   refine hi.fr t j hj λk ok hok hdk=>?_
   have hki:k≠i:=λe=>by
    subst e
    rw[ho]at hok;injection hok with hok;subst hok
    exact hd hdk
   rw[hc k ok hok hdk,hset,if_neg hki]
 ·intro j hj hc
  cases hw:(effect E frz o.op).2 with
  |true=>
   rw[hσ1 hw]
   have hij:i<j:=(hc i o ho hw).2 (by rw[hset];simp)
   refine h.quietσ j (a:=i+1) (by omega) hj λk ok k1 k2 hok=>?_
   cases hwk:(effect E frz ok.op).2 with
   |false=>rfl
   |true=>
    have hLk:=(hc k ok hok hwk).1 k2
    rw[hset,if_neg (by omega)]at hLk
    rcases h.pair i k o ok (by omega) ho hok with hp | ⟨hp,_⟩
    ·exact (hno k hLk hp).elim
    ·exact (pairOk_ww hp hw hwk).elim
  |false=>
   rw[hσ2 hw]
   refine hi.Z j hj λk ok hok hwk=>?_
   have hki:k≠i:=λe=>by
    subst e
    rw[ho]at hok;injection hok with hok;subst hok
    rw[hw]at hwk;cases hwk
   rw[hc k ok hok hwk,hset,if_neg hki]
end
end
end Go.Ax
end
