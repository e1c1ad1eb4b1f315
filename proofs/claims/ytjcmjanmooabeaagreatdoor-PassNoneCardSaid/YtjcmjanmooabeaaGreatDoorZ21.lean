/- Part 21 of the proof. -/
import Derived.Test.YtjcmjanmooabeaaGreatDoorZ20
import Derived.Test.YtjcmjanmooabeaaGreatDoorZ4
import Derived.Shelf.Spec.SlicesGrow
import Derived.Test.YtjcmjanmooabeaaGreatDoorProg
import Derived.Test.YtjcmjanmooabeaaGreatDoorZ18
import Derived.Test.YtjcmjanmooabeaaGreatDoorZ5
import Derived.Test.YtjcmjanmooabeaaGreatDoorZ6
import Derived.Test.YtjcmjanmooabeaaGreatDoorZ7
import Derived.Test.YtjcmjanmooabeaaGreatDoorZ8
import Derived.Test.YtjcmjanmooabeaaGreatDoorZ9
import Derived.Test.YtjcmjanmooabeaaGreatDoorZ10
import Derived.Test.YtjcmjanmooabeaaGreatDoorZ11
import Derived.Test.YtjcmjanmooabeaaGreatDoorZ12
import Derived.Test.YtjcmjanmooabeaaGreatDoorZ13
import Derived.Test.YtjcmjanmooabeaaGreatDoorZ14
import Derived.Test.YtjcmjanmooabeaaGreatDoorZ15
import Derived.Test.YtjcmjanmooabeaaGreatDoorZ16
import Derived.Test.YtjcmjanmooabeaaGreatDoorZ17
import Derived.Test.YtjcmjanmooabeaaGreatDoorZ3
import Derived.KernelRfl
set_option maxHeartbeats 8000000
set_option linter.unusedVariables false
set_option linter.unusedSimpArgs false
section
namespace Go.AxC
open Go Go.Proofs Go.Ax Go.RowKit Go.Maps Go.Sort Go.Shelf
set_option maxRecDepth 100000 in
theorem valsS_stops (F:Fence) (n:Nat)(hF:F.fn 262)(hro:F.round=none)(hn:1<=n) (Bm:Nat) (p:Option Addr) (cap:Nat) (xs:List ByteArray) (w:World)(hBm:Bm<w.heap.size)(hx:xs.length<=1000000)
  (hm:w.cell? ⟨Bm,0,none⟩=some (.slice p xs.length cap))(hp:∀j x,xs[j]?=some x->∃blk off,p=some ⟨blk,off,none⟩/\w.cell? ⟨blk,off+j,none⟩=some (.string x)) :
  SeqStopsK F n Tryz.prog 262 #[.pointer (some ⟨Bm,0,none⟩)] (λx=>#[encS x]) (Kp2 w.heap.size) (λss=>ss=xs) (λ_=>True) xs.length w:=by
 intro l J Jx W hW hJ hJx hY h0
 replace hm:W.cell? ⟨Bm,0,none⟩=some (.slice p xs.length cap):=(hW.cell (p:=⟨Bm,0,none⟩) hBm).trans hm
 refine callsIn_of_wp Tryz.func262 rfl hF ?_ hro
 simp only[Tryz.ntmps262,List.size_toArray,List.length_cons,List.length_nil,Nat.reduceAdd,Nat.reduceSub,Array.replicate_succ,Array.replicate_zero,List.push_toArray,List.append_toArray,List.nil_append,List.cons_append]
 gi_wp2
 gi_loopw [7] (λv7 wr=>∃i:Nat,v7=.int .i64 (i:Int)/\i<=xs.length/\J (xs.take i) wr/\Below w.heap.size w wr)
  (λv7 wr=>match v7 with | .int _ k=>xs.length-k.toNat | _=>0)
 case atStart=>
  exact⟨0,rfl,Nat.zero_le _,h0,hW⟩
 case round=>
  obtain⟨i,rfl,hi,hJi,hb⟩:=hrel
  by_cases hlt:i<xs.length
  ·have hii:((i:Int)<(xs.length:Int)):=by omega
   have hxi:xs[i]?=some xs[i]:=List.getElem?_eq_getElem hlt
   obtain⟨blk,off,rfl,hc⟩:=hp i _ hxi
   have hc':wr.cell? ⟨blk,off+i,none⟩=some (.string xs[i]):=(hb.cell (p:=⟨blk,off+i,none⟩) (by
    unfold World.cell? at hc
    cases ho:w.heap[blk]? with
    |none=>simp[ho]at hc
    |some o=>exact (Array.getElem?_eq_some_iff.1 ho).1)).trans hc
   obtain⟨fn,tmps,assign,body,hy,hR⟩:=hY (xs.take i) xs[i] wr hJi (by simp;omega)
   simp only[encS]at hy
   have htk:xs.take i++[xs[i]]=xs.take (i+1):=by simp
   have h63:IntKind.i64.wrap ((i:Int)+1)=(i:Int)+1:=by
    have:i+1<=1000000:=by omega
    simp only[IntKind.wrap,IntKind.bits,IntKind.signed]
    simp
    omega
   gi_wp2
   refine hR.mono ?_
   rintro e W3 (⟨rfl,hJ4,hk3⟩ | ⟨rfl,hJx3⟩)
   ·rw[htk]at hJ4
    gi_wp2
    go_roundw
    case rel=>exact⟨i+1,by rw[Int.natCast_add];rfl,by omega,hJ4,hb.trans hk3.2⟩
    case measure=>
     show xs.length-((i:Int)+1).toNat<xs.length-(i:Int).toNat
     omega
   ·gi_wp2
    refine bodyPost_ret (results_none rfl _ _ _) rfl ?_
    exact⟨⟨_,rfl⟩,.inr ⟨_,trivial,hJx3⟩⟩
  ·have hie:i=xs.length:=by omega
   subst hie
   gi_wp2
   go_end0
   exact⟨⟨_,rfl⟩,.inl ⟨xs,rfl,by simpa using hJi⟩⟩
end Go.AxC
end
section
namespace Go.AxC
open Go Go.Proofs Go.Ax Go.RowKit Go.Sort
section
section
variable {E:Env}{c:Cx}
theorem box_cell (hs:SR E c) {b t:Nat}{X:V}{ex:Bool}(hb:c.Z[b]?=some (.cells t [X] ex)):∃x,c.w.cell? ⟨c.blk b,0,none⟩=some x/\VR c X x/\c.blk b<c.w.heap.size:=by
 obtain⟨arr,h1,_,_,_,_,_,h2⟩:=hs.obj b _ hb
 obtain⟨x,h3,h4⟩:=h2 0 X rfl
 exact⟨x,by simp[World.cell?,h1,h3],h4,(Array.getElem?_eq_some_iff.1 h1).1⟩
theorem map_of (hs:SR E c) {X:V}{es:List (V × V)}(hX:(∃m,X=.mp m/\c.Z[m]?=some (.map es))\/∃g,X=.imp g es) {x:Value}(hv:VR c X x) :
  ∃blk en cl l,x=.map (some blk)/\c.w.heap[blk]?=some (.map en cl)/\MOk en cl/\l.Perm en.toList/\MapR c es l:=by
 rcases hX with⟨m,rfl,hm⟩ | ⟨g,rfl⟩
 ·obtain⟨en,cl,h1,h2,l,h3,h4⟩:=hs.obj m _ hm
  cases hv with
  |mp _ h=>exact⟨_,en,cl,l,rfl,h1,h2,h3,h4⟩
  |inl h=>cases h
 ·obtain⟨m,en,cl,l,hx,_,h1,h2,h3,h4⟩:=hv.imp_inv
  exact⟨m,en,cl,l,hx,h1,h2,h3,h4.mapR⟩
theorem rowS {I:Bool->Nat->Prop}{w:World}{k:V}{x:Value}(h:IRa w I k x)(hr:strRow (rowOf k)=true):∃y,x=encS y/\rowOf k=absS y:=by
 cases h with
 |one h=>cases h with
  |str s=>exact⟨s,rfl,rfl⟩
  |_=>simp[rowOf,V.cells,strRow]at hr
 |agg cs xs h=>
  match cs,hr with
  | [],hr=>simp[rowOf,V.cells,strRow]at hr
  | [_],hr=>simp[rowOf,strRow]at hr
  |_::_::_,hr=>simp[rowOf,V.cells,strRow]at hr
theorem rowL {I:Bool->Nat->Prop}{w:World}{k:V}{x:Value}(h:IRa w I k x)(hr:labRow (rowOf k)=true):∃y,x=encL y/\rowOf k=absL y:=by
 cases h with
 |one h=>cases h <;> simp[rowOf,V.cells,labRow]at hr
 |agg cs xs h=>
  match cs,hr with
  | [],hr=>simp[rowOf,V.cells,labRow]at hr
  | [_],hr=>simp[rowOf,labRow]at hr
  | [a,b],hr=>
   cases h with
   |cons _ y _ ys h1 h2=>cases h2 with
    |cons _ z _ zs h3 h4=>
     cases h4
     cases h1 <;> first | (cases h3 <;> first | exact⟨(_,_),rfl,rfl⟩ | (simp[rowOf,V.cells,labRow]at hr;done)) | (simp[rowOf,V.cells,labRow]at hr;done)
  |_::_::_::_,hr=>simp[rowOf,V.cells,labRow]at hr
theorem keys_of {α:Type}{enc:α->Value}{abs:α->List V}{p:List V->Bool}(hrow:∀{k:V}{x:Value},IRa c.w c.imm k x->p (rowOf k)=true->∃y,x=enc y/\rowOf k=abs y)
  {es:List (V × V)}{l:List MapEntry}(hm:MapR c es l):allRows p (es.map λe=>rowOf e.1)=true->∃ys:List α,l.map (·.key)=ys.map enc/\(es.map λe=>rowOf e.1)=ys.map abs:=by
 induction hm with
 |nil=>exact λ_=>⟨[],rfl,rfl⟩
 |cons k v es e l hk hv hr ih=>
  intro h
  simp only[List.map_cons,allRows]at h
  split at h
  case h_2=>cases h
  rename_i h1
  obtain⟨y,e1,e2⟩:=hrow hk h1
  obtain⟨ys,e3,e4⟩:=ih h
  exact⟨y::ys,by simp[e1,e3],by simp[e2,e4]⟩
theorem flatS:∀zs:List ByteArray,(zs.map absS).flatten.length=(zs.flatMap cellsS).length/\(zs.map absS).flatten.all V.okCell=true/\∀(c':Cx) (j:Nat) (a:V),(zs.map absS).flatten[j]?=some a->∃x,(zs.flatMap cellsS)[j]?=some x/\VR c' a x
 | []=>⟨rfl,rfl,λ_ j a h=>by simp at h⟩
 |z::zs=>by
  obtain⟨h1,h2,h3⟩:=flatS zs
  refine⟨by simp[absS,cellsS]at h1 ⊢;exact h1,by simp only[List.map_cons,List.flatten_cons,List.all_append,h2];rfl,λc' j a h=>?_⟩
  match j,h with
  |0,h=>
   injection (show some (V.str (Ax.bytes z))=some a from h) with h
   subst h
   exact⟨.string z,rfl,.inl (.str z)⟩
  |j+1,h=>exact h3 c' j a h
theorem flatL:∀zs:List (Bool × ByteArray),(zs.map absL).flatten.length=(zs.flatMap cellsL).length/\(zs.map absL).flatten.all V.okCell=true/\∀(c':Cx) (j:Nat) (a:V),(zs.map absL).flatten[j]?=some a->∃x,(zs.flatMap cellsL)[j]?=some x/\VR c' a x
 | []=>⟨rfl,rfl,λ_ j a h=>by simp at h⟩
 |z::zs=>by
  obtain⟨h1,h2,h3⟩:=flatL zs
  refine⟨by simp only[List.map_cons,List.flatten_cons,List.flatMap_cons,List.length_append,h1];rfl,by simp only[List.map_cons,List.flatten_cons,List.all_append,h2];rfl,λc' j a h=>?_⟩
  match j,h with
  |0,h=>
   injection (show some (V.bool z.1)=some a from h) with h
   subst h
   exact⟨.bool z.1,rfl,.inl (.bool _)⟩
  |1,h=>
   injection (show some (V.str (Ax.bytes z.2))=some a from h) with h
   subst h
   exact⟨.string z.2,rfl,.inl (.str z.2)⟩
  |j+2,h=>exact h3 c' j a h
end
theorem perm_dec {α:Type}{enc:α->Value} (dec:Value->α)(hd:∀x,dec (enc x)=x) {a b:List α}(h:(a.map enc).Perm (b.map enc)):a.Perm b:=by
 have:=h.map dec
 simpa [List.map_map,Function.comp_def,hd]using this
def decS:Value->ByteArray
 | .string s=>s
 |_=>default
def decL:Value->Bool × ByteArray
 | .agg #[.bool b,.string s]=>(b,s)
 |_=>default
theorem seq_perm {α:Type}{F:Fence}{n:Nat}{P:Program}{g:Nat}{lb:Array Value}{encs:α->Array Value}{Kp:World->World->Prop}{S S' Sp:List α->Prop}{N:Nat}{w:World}(h:SeqStopsK F n P g lb encs Kp S Sp N w)(hS:∀xs,S xs->S' xs):SeqStopsK F n P g lb encs Kp S' Sp N w:=
 λl J Jx W hW hJ hJx hY h0=>(h l J Jx W hW hJ hJx hY h0).mono λe W' ⟨h1,h2⟩=>⟨h1,h2.imp (λ⟨xs,a,b⟩=>⟨xs,hS xs a,b⟩) id⟩
end
section
section
variable {E:Env}{c:Cx}
theorem finS (hs:SR E c) {i:Ty}(hi:E.ty 9=some i)(h1:i.size=1) (g:Nat) (lb:Array Value) (eg:∀args w,(callFunc g args).run Tryz.prog w=.ok (.enter g args) w) (ys:List ByteArray)(hlen:ys.length<=1000000)
  (hseq:SeqStopsK Fence.wide 2 Tryz.prog g lb (λx=>#[encS x]) (Kp2 c.w.heap.size) (λss=>ss.Perm ys) (λ_=>True) ys.length c.w) :
  Runs Tryz.prog 143 [.func (.func g) #[] lb] c.w λx w'=>(ys=[]->Back E c .nils c.Z x w')/\(ys≠[]->Back E c (.sl c.Z.length 0 ys.length none) (c.Z++[.cells 9 (sortK strLt (ys.map absS)).flatten false]) x w'):=by
 refine .inl ⟨Tryz.call143 _ _,(sortedS c.w g lb eg _ ys.length (by simp only[maxLen];omega) (by omega) (λss h=>Nat.le_of_eq h.length_eq) hseq).mono ?_⟩
 rintro e w' ⟨v,ss,rfl,hp,hrow,hnil,hb⟩
 have hl:=hp.length_eq
 refine⟨v,rfl,λh0=>?_,λh0=>?_⟩
 ·subst h0
  rw[hnil.2 (List.perm_nil.1 hp)]
  exact adopt_nil hs hb
 ·have hss:ss≠[]:=λe=>h0 (List.perm_nil.1 (by rw[e]at hp;exact hp.symm))
  have hv:v≠.slice none 0 0:=λe=>hss (hnil.1 e)
  rw[sortA_eq stoS hp,hl]at hrow
  obtain⟨k1,k2,k3⟩:=flatS (sortA ltS ys)
  rw[sortK_map absS]
  exact adopt_row hs hb hi h1 hrow hv k1 k2 k3
theorem finL (hs:SR E c) {i:Ty}(hi:E.ty 105=some i)(h1:i.size=2) (g:Nat) (lb:Array Value) (eg:∀args w,(callFunc g args).run Tryz.prog w=.ok (.enter g args) w) (ys:List (Bool × ByteArray))(hlen:ys.length<=1000000)
  (hseq:SeqStopsK Fence.wide 2 Tryz.prog g lb (λx=>#[encL x]) (Kp2 c.w.heap.size) (λss=>ss.Perm ys) (λ_=>True) ys.length c.w) :
  Runs Tryz.prog 136 [.func (.func g) #[] lb,.func (.func 138) #[] #[]] c.w λx w'=>(ys=[]->Back E c .nils c.Z x w')/\(ys≠[]->Back E c (.sl c.Z.length 0 ys.length none) (c.Z++[.cells 105 (sortK labLt (ys.map absL)).flatten false]) x w'):=by
 refine .inl ⟨Tryz.call136 _ _,(sortedL c.w g lb eg _ ys.length (by simp only[maxLen];omega) (by omega) (λss h=>Nat.le_of_eq h.length_eq) hseq).mono ?_⟩
 rintro e w' ⟨v,ss,rfl,hp,hrow,hnil,hb⟩
 have hl:=hp.length_eq
 refine⟨v,rfl,λh0=>?_,λh0=>?_⟩
 ·subst h0
  rw[hnil.2 (List.perm_nil.1 hp)]
  exact adopt_nil hs hb
 ·have hss:ss≠[]:=λe=>h0 (List.perm_nil.1 (by rw[e]at hp;exact hp.symm))
  have hv:v≠.slice none 0 0:=λe=>hss (hnil.1 e)
  rw[sortA_eq stoL hp,hl]at hrow
  obtain⟨k1,k2,k3⟩:=flatL (sortA ltL ys)
  rw[sortK_map absL]
  exact adopt_row hs hb hi h1 hrow hv k1 k2 k3
theorem hSorted_inv {t:Nat}{fk fv:List Nat}{ok:List V->Bool}{lt:List V->List V->Bool}{x:V}{Z σ':Sg}{v:V}(h:hSorted t fk fv ok lt x Z=some (v,σ')) :
  ∃rows,keysOf Z fk fv x=some rows/\allRows ok rows=true/\Nat.ble rows.length 1000000=true/\((rows=[]/\v=.nils/\σ'=Z)\/(rows≠[]/\v=.sl Z.length 0 rows.length none/\σ'=Z++[.cells t (sortK lt rows).flatten false])):=by
 unfold hSorted at h
 split at h
 ·rename_i hk
  injection h with h;injection h with h1 h2
  exact⟨[],hk,rfl,rfl,.inl ⟨rfl,h1.symm,h2.symm⟩⟩
 ·rename_i l hne hk
  split at h
  case h_2=>cases h
  rename_i h3 h4
  injection h with h;injection h with h1 h2
  exact⟨l,hk,h3,h4,.inr ⟨λe=>hne e,h1.symm,h2.symm⟩⟩
 ·cases h
theorem natIn_mem {n:Nat}:∀{l:List Nat},natIn n l=true->n∈l
 | [],h=>by cases h
 |a::r,h=>by
  simp only[natIn]at h
  split at h
  ·rename_i e
   have e:=Nat.eq_of_beq_eq_true e
   subst e
   exact List.mem_cons_self ..
  ·exact List.mem_cons_of_mem _ (natIn_mem h)
theorem fn_box {f b:Nat}{x:Value}(hv:VR c (.fn f [] [.ref b 0]) x):x=.func (.func f) #[] #[.pointer (some ⟨c.blk b,0,none⟩)]:=by
 cases hv with
 |inl h=>cases h
 |fn _ _ _ xs ys ha hb=>
  cases ha
  cases hb with
  |cons _ y _ zs h1 h2=>
   cases h2
   obtain⟨e,_⟩:=h1.ref_inv
   rw[e]
theorem cells_of_rows {I:Bool->Nat->Prop}{w:World}:∀{xs:List (List V)}{blk off:Nat},RowsAt w I 1 xs blk off->allRows strRow xs=true->∃ys:List ByteArray,xs=ys.map absS/\∀j y,ys[j]?=some y->w.cell? ⟨blk,off+j,none⟩=some (.string y)
 | [],_,_,_,_=>⟨[],rfl,λj y h=>by simp at h⟩
 |r::xs,blk,off,h,hok=>by
  cases h with
  |cons _ _ hl hc hr=>
   simp only[allRows]at hok
   split at hok
   case h_2=>cases hok
   rename_i h1
   obtain⟨ys,e,hy⟩:=cells_of_rows hr hok
   cases hc with
   |nil=>cases hl
   |cons v x cs h2 h3 h4=>
    cases h4 with
    |cons=>simp at hl
    |nil=>
     cases h3 <;> first | (simp[strRow]at h1;done) | skip
     rename_i s
     refine⟨s::ys,by rw[e];rfl,λj y hj=>?_⟩
     match j,hj with
     |0,hj=>injection hj with hj;subst hj;exact h2
     |j+1,hj=>
      have:=hy j y hj
      rwa [Nat.add_assoc,Nat.add_comm 1 j]at this
theorem rows_one {I:Bool->Nat->Prop}{w:World}{sz:Nat}{xs:List (List V)}{blk off:Nat}(h:RowsAt w I sz xs blk off)(hok:allRows strRow xs=true):xs=[]\/sz=1:=by
 cases h with
 |nil=>exact .inl rfl
 |cons r xs hl hc hr=>
  right
  simp only[allRows]at hok
  split at hok
  case h_2=>cases hok
  rename_i h1
  match r,h1,hl with
  | [],h1,_=>cases h1
  | [_],_,hl=>exact hl.symm
  |_::_::_,h1,_=>simp[strRow]at h1
theorem cells_of_list {cs:List V}{arr:Array Value}(hc:∀(j:Nat) (v:V),cs[j]?=some v->∃x,arr[j]?=some x/\VR c v x):∀(l:List V) (off:Nat),(∀j v,l[j]?=some v->cs[off+j]?=some v)->allRows strRow (l.map λv=>[v])=true->∃ys:List ByteArray,(l.map λv=>[v])=ys.map absS/\∀j y,ys[j]?=some y->arr[off+j]?=some (.string y)
 | [],_,_,_=>⟨[],rfl,λj y h=>by simp at h⟩
 |v::l,off,hl,hok=>by
  simp only[List.map_cons,allRows]at hok
  split at hok
  case h_2=>cases hok
  rename_i h1
  obtain⟨ys,e,hy⟩:=cells_of_list hc l (off+1) (λj w hj=>by have:=hl (j+1) w hj;rwa [<- Nat.add_assoc,Nat.add_right_comm]at this) hok
  obtain⟨x,h2,h3⟩:=hc off v (hl 0 v rfl)
  have hx:∃s,x=.string s/\v=.str (Ax.bytes s):=by
   cases v <;> first | (simp[strRow]at h1;done) | skip
   obtain⟨s,h4,h5⟩:=h3.str_inv
   exact⟨s,h4,by rw[h5]⟩
  obtain⟨s,rfl,rfl⟩:=hx
  refine⟨s::ys,by rw[List.map_cons,e];rfl,λj y hj=>?_⟩
  match j,hj with
  |0,hj=>injection hj with hj;subst hj;exact h2
  |j+1,hj=>
   have:=hy j y hj
   rwa [Nat.add_assoc,Nat.add_comm 1 j]at this
end
end
section
section
variable {E:Env}{c:Cx}
theorem runMapS (hs:SR E c) {i:Ty}(hi:E.ty 9=some i)(h1:i.size=1) {f b t:Nat}{X:V}{ex:Bool}{es:List (V × V)}(hf:f∈[187,318])(hb:c.Z[b]?=some (.cells t [X] ex))
  (hX:(∃m,X=.mp m/\c.Z[m]?=some (.map es))\/∃g,X=.imp g es)(hok:allRows strRow (es.map λe=>rowOf e.1)=true)(hlen:Nat.ble (es.map λe=>rowOf e.1).length 1000000=true) :
  ∃ys:List ByteArray,(es.map λe=>rowOf e.1)=ys.map absS/\Runs Tryz.prog 143 [.func (.func f) #[] #[.pointer (some ⟨c.blk b,0,none⟩)]] c.w λx w'=>(ys=[]->Back E c .nils c.Z x w')/\(ys≠[]->Back E c (.sl c.Z.length 0 ys.length none) (c.Z++[.cells 9 (sortK strLt (ys.map absS)).flatten false]) x w'):=by
 obtain⟨x,hx,hvx,hblt⟩:=box_cell hs hb
 obtain⟨blk,en,cl,l,rfl,h2,h3,h4,h5⟩:=map_of hs hX hvx
 obtain⟨ys,e1,e2⟩:=keys_of (enc:=encS) (abs:=absS) (λh hr=>rowS h hr) h5 hok
 have hl:ys.length<=1000000:=by rw[e2,List.length_map]at hlen;exact Nat.le_of_ble_eq_true hlen
 have hken:(en.toList.map (·.key)).Perm (ys.map encS):=by rw[<- e1];exact (h4.map _).symm
 have hks:∀x∈en.toList.map (·.key),∃y,x=encS y:=λx hx=>by
  have:=hken.mem_iff.1 hx
  obtain⟨y,_,rfl⟩:=List.mem_map.1 this
  exact⟨y,rfl⟩
 have hsz:en.size=ys.length:=by have:=hken.length_eq;simpa using this
 refine⟨ys,e2,finS hs hi h1 f _ ?_ ys hl ?_⟩
 ·simp only[List.mem_cons,List.not_mem_nil,or_false]at hf
  rcases hf with rfl | rfl
  ·exact enters_of Tryz.func187 (by kernel_rfl) rfl
  ·exact enters_of Tryz.func318 (by kernel_rfl) rfl
 ·rw[<- hsz]
  simp only[List.mem_cons,List.not_mem_nil,or_false]at hf
  rcases hf with rfl | rfl
  ·exact seq_perm (kp2_of _ (keysS_stops Fence.wide 2 trivial rfl (by omega) (c.blk b) blk en cl c.w hblt hx h2 h3.st hks)) λxs hp=>perm_dec decS (λ_=>rfl) (hp.trans hken)
  ·exact seq_perm (kp2_of _ (keysT_stops Fence.wide 2 trivial rfl (by omega) (c.blk b) blk en cl c.w hblt hx h2 h3.st hks)) λxs hp=>perm_dec decS (λ_=>rfl) (hp.trans hken)
theorem runMapL (hs:SR E c) {i:Ty}(hi:E.ty 105=some i)(h1:i.size=2) {f b t:Nat}{X:V}{ex:Bool}{es:List (V × V)}(hf:f∈[184])(hb:c.Z[b]?=some (.cells t [X] ex))
  (hX:(∃m,X=.mp m/\c.Z[m]?=some (.map es))\/∃g,X=.imp g es)(hok:allRows labRow (es.map λe=>rowOf e.1)=true)(hlen:Nat.ble (es.map λe=>rowOf e.1).length 1000000=true) :
  ∃ys:List (Bool × ByteArray),(es.map λe=>rowOf e.1)=ys.map absL/\Runs Tryz.prog 136 [.func (.func f) #[] #[.pointer (some ⟨c.blk b,0,none⟩)],.func (.func 138) #[] #[]] c.w λx w'=>(ys=[]->Back E c .nils c.Z x w')/\(ys≠[]->Back E c (.sl c.Z.length 0 ys.length none) (c.Z++[.cells 105 (sortK labLt (ys.map absL)).flatten false]) x w'):=by
 obtain⟨x,hx,hvx,hblt⟩:=box_cell hs hb
 obtain⟨blk,en,cl,l,rfl,h2,h3,h4,h5⟩:=map_of hs hX hvx
 obtain⟨ys,e1,e2⟩:=keys_of (enc:=encL) (abs:=absL) (λh hr=>rowL h hr) h5 hok
 have hl:ys.length<=1000000:=by rw[e2,List.length_map]at hlen;exact Nat.le_of_ble_eq_true hlen
 have hken:(en.toList.map (·.key)).Perm (ys.map encL):=by rw[<- e1];exact (h4.map _).symm
 have hks:∀x∈en.toList.map (·.key),∃y,x=encL y:=λx hx=>by
  have:=hken.mem_iff.1 hx
  obtain⟨y,_,rfl⟩:=List.mem_map.1 this
  exact⟨y,rfl⟩
 have hsz:en.size=ys.length:=by have:=hken.length_eq;simpa using this
 refine⟨ys,e2,finL hs hi h1 f _ ?_ ys hl ?_⟩
 ·simp only[List.mem_cons,List.not_mem_nil,or_false]at hf
  subst hf
  exact enters_of Tryz.func184 (by kernel_rfl) rfl
 ·rw[<- hsz]
  simp only[List.mem_cons,List.not_mem_nil,or_false]at hf
  subst hf
  exact seq_perm (kp2_of _ (keysL_stops Fence.wide 2 trivial rfl (by omega) (c.blk b) blk en cl c.w hblt hx h2 h3.st hks)) λxs hp=>perm_dec decL (λ_=>rfl) (hp.trans hken)
theorem runValS (hs:SR E c) {i:Ty}(hi:E.ty 9=some i)(h1:i.size=1) {f b t:Nat}{X:V}{ex:Bool}(hf:f∈[262])(hb:c.Z[b]?=some (.cells t [X] ex)) (ys:List ByteArray)(hl:ys.length<=1000000)
  (hX:∀x,c.w.cell? ⟨c.blk b,0,none⟩=some x->VR c X x->∃p cap,x=.slice p ys.length cap/\∀j y,ys[j]?=some y->∃blk off,p=some ⟨blk,off,none⟩/\c.w.cell? ⟨blk,off+j,none⟩=some (.string y)) :
  Runs Tryz.prog 143 [.func (.func f) #[] #[.pointer (some ⟨c.blk b,0,none⟩)]] c.w λx w'=>(ys=[]->Back E c .nils c.Z x w')/\(ys≠[]->Back E c (.sl c.Z.length 0 ys.length none) (c.Z++[.cells 9 (sortK strLt (ys.map absS)).flatten false]) x w'):=by
 obtain⟨x,hx,hvx,hblt⟩:=box_cell hs hb
 obtain⟨p,cap,rfl,hp⟩:=hX x hx hvx
 simp only[List.mem_cons,List.not_mem_nil,or_false]at hf
 subst hf
 exact finS hs hi h1 _ _ (enters_of Tryz.func262 (by kernel_rfl) rfl) ys hl (seq_perm (valsS_stops Fence.wide 2 trivial rfl (by omega) (c.blk b) p cap ys c.w hblt hl hx hp) λxs e=>by rw[e])
theorem hSortedStr_ok {i:Ty}(hi:E.ty 9=some i)(h1:i.size=1):HspecOk Tryz.prog E 143 (hSortedStr 9 [187,318] [262]):=by
 intro c vs xs v σ' hs hv h
 unfold hSortedStr at h
 split at h
 case h_2=>cases h
 rename_i x
 cases hv with
 |cons _ y _ zs hv1 hv2=>
 cases hv2
 obtain⟨rows,hk,hok,hlen,hres⟩:=hSorted_inv h
 have fin:∀(ys:List ByteArray),rows=ys.map absS->Runs Tryz.prog 143 [y] c.w (λx w'=>(ys=[]->Back E c .nils c.Z x w')/\(ys≠[]->Back E c (.sl c.Z.length 0 ys.length none) (c.Z++[.cells 9 (sortK strLt (ys.map absS)).flatten false]) x w'))->Runs Tryz.prog 143 [y] c.w (Back E c v σ'):=by
  intro ys e hr
  refine hr.mono λx w' ⟨k1,k2⟩=>?_
  rcases hres with⟨r0,rfl,rfl⟩ | ⟨r0,rfl,rfl⟩
  ·exact k1 (by rw[e]at r0;simpa using r0)
  ·have:=k2 (λe0=>r0 (by rw[e,e0];rfl))
   rw[e,List.length_map]
   exact this
 unfold keysOf at hk
 split at hk
 case h_2=>cases hk
 rename_i f b
 have hy:=fn_box hv1
 subst hy
 split at hk
 ·rename_i hb hf
  split at hk
  case h_2=>cases hk
  rename_i es hm
  have hk:=Option.some.inj hk
  subst hk
  obtain⟨ys,e,hr⟩:=runMapS hs hi h1 (natIn_mem hf) hb (.inl ⟨_,rfl,hm⟩) hok hlen
  exact fin ys e hr
 ·rename_i hb hf
  have hk:=Option.some.inj hk
  subst hk
  obtain⟨ys,e,hr⟩:=runMapS hs hi h1 (natIn_mem hf) hb (.inr ⟨_,rfl⟩) hok hlen
  exact fin ys e hr
 ·rename_i hb hf
  have hk:=Option.some.inj hk
  subst hk
  refine fin [] rfl (runValS hs hi h1 (natIn_mem hf) hb [] (Nat.zero_le _) λx _ hx=>?_)
  have:x=.slice none 0 0:=by cases hx with | inl h=>cases h;rfl
  exact⟨none,0,this,λj y h=>by simp at h⟩
 ·rename_i t g xs full ex hb hf
  have hk:=Option.some.inj hk
  subst hk
  obtain⟨x0,hx0,hv0,_⟩:=box_cell hs hb
  obtain⟨blk,off,sp,cap,sz,rfl,hsp,_,_,hr⟩:=hv0.isl_inv
  rcases hsp with⟨rfl,-⟩ | ⟨rfl,rfl⟩
  case inr=>
   refine fin [] rfl (runValS hs hi h1 (natIn_mem hf) hb [] (Nat.zero_le _) λx hx _=>?_)
   rw[hx0]at hx
   have hx:=Option.some.inj hx
   subst hx
   exact⟨_,0,rfl,λj y hj=>by simp at hj⟩
  obtain⟨ys,e,hy⟩:∃ys:List ByteArray,xs=ys.map absS/\∀j y,ys[j]?=some y->c.w.cell? ⟨blk,off+j,none⟩=some (.string y):=by
   rcases rows_one hr hok with rfl | rfl
   ·exact⟨[],rfl,λj y h=>by simp at h⟩
   ·exact cells_of_rows hr hok
  have hl:xs.length=ys.length:=by rw[e,List.length_map]
  refine fin ys e (runValS hs hi h1 (natIn_mem hf) hb ys (by rw[<- hl];exact Nat.le_of_ble_eq_true hlen) λx hx _=>?_)
  rw[hx0]at hx
  have hx:=Option.some.inj hx
  subst hx
  exact⟨_,cap,by rw[hl],λj y hj=>⟨blk,off,rfl,hy j y hj⟩⟩
 ·rename_i t m off len cap ex hb hf
  split at hk
  case h_2=>cases hk
  rename_i t' cs ex' hm
  split at hk
  case h_2=>cases hk
  rename_i hle
  have hk:=Option.some.inj hk
  subst hk
  have hle:=Nat.le_of_ble_eq_true hle
  obtain⟨x0,hx0,hv0,_⟩:=box_cell hs hb
  obtain⟨arr,k1,k2,k3,k4,k5,k6,k7⟩:=hs.obj m _ hm
  obtain⟨ys,e,hy⟩:=cells_of_list k7 ((cs.drop off).take len) off (λj w hj=>by
   have hjl:j<len:=Nat.lt_of_lt_of_le (List.getElem?_eq_some_iff.1 hj).1 (by rw[List.length_take];exact Nat.min_le_left _ _)
   rw[List.getElem?_take_of_lt hjl,List.getElem?_drop]at hj
   exact hj) hok
  have hl:ys.length=len:=by
   have:=congrArg List.length e
   simp only[List.length_map,List.length_take,List.length_drop]at this
   omega
  cases hv0 with
  |inl h=>cases h
  |sl _ _ _ _ cap' h2 h3 h4 h5=>
   refine fin ys e (runValS hs hi h1 (natIn_mem hf) hb ys (by
    have:=Nat.le_of_ble_eq_true hlen
    rw[e,List.length_map]at this
    exact this) λx hx _=>?_)
   rw[hx0]at hx
   have hx:=Option.some.inj hx
   subst hx
   exact⟨_,cap',by rw[hl],λj y hj=>⟨c.blk m,off,rfl,by
    have:=hy j y hj
    simp[World.cell?,k1,this]⟩⟩
 ·cases hk
theorem hSortedLab_ok {i:Ty}(hi:E.ty 105=some i)(h1:i.size=2):HspecOk Tryz.prog E 136 (hSortedLab 105 [184] [] 138):=by
 intro c vs xs v σ' hs hv h
 unfold hSortedLab at h
 split at h
 case h_2=>cases h
 rename_i x fo
 split at h
 case h_2=>cases h
 rename_i hfo
 have hfo:=Nat.eq_of_beq_eq_true hfo
 subst hfo
 cases hv with
 |cons _ y _ zs hv1 hv2=>
 cases hv2 with
 |cons _ y2 _ zs2 hv3 hv4=>
 cases hv4
 have hy2:y2=.func (.func 138) #[] #[]:=by
  cases hv3 with
  |inl h=>cases h;rfl
  |fn _ _ _ a b ha hb=>cases ha;cases hb;rfl
 subst hy2
 obtain⟨rows,hk,hok,hlen,hres⟩:=hSorted_inv h
 have fin:∀(ys:List (Bool × ByteArray)),rows=ys.map absL->Runs Tryz.prog 136 [y,.func (.func 138) #[] #[]] c.w (λx w'=>(ys=[]->Back E c .nils c.Z x w')/\(ys≠[]->Back E c (.sl c.Z.length 0 ys.length none) (c.Z++[.cells 105 (sortK labLt (ys.map absL)).flatten false]) x w'))->Runs Tryz.prog 136 [y,.func (.func 138) #[] #[]] c.w (Back E c v σ'):=by
  intro ys e hr
  refine hr.mono λx w' ⟨k1,k2⟩=>?_
  rcases hres with⟨r0,rfl,rfl⟩ | ⟨r0,rfl,rfl⟩
  ·exact k1 (by rw[e]at r0;simpa using r0)
  ·have:=k2 (λe0=>r0 (by rw[e,e0];rfl))
   rw[e,List.length_map]
   exact this
 unfold keysOf at hk
 split at hk
 case h_2=>cases hk
 rename_i f b
 have hy:=fn_box hv1
 subst hy
 split at hk
 ·rename_i hb hf
  split at hk
  case h_2=>cases hk
  rename_i es hm
  have hk:=Option.some.inj hk
  subst hk
  obtain⟨ys,e,hr⟩:=runMapL hs hi h1 (natIn_mem hf) hb (.inl ⟨_,rfl,hm⟩) hok hlen
  exact fin ys e hr
 ·rename_i hb hf
  have hk:=Option.some.inj hk
  subst hk
  obtain⟨ys,e,hr⟩:=runMapL hs hi h1 (natIn_mem hf) hb (.inr ⟨_,rfl⟩) hok hlen
  exact fin ys e hr
 ·rename_i hf;cases hf
 ·rename_i hf;cases hf
 ·rename_i hf;cases hf
 ·cases hk
end
end
end Go.AxC
end
section
namespace Go.AxC
open Go Go.Proofs Go.Ax Go.RowKit Go.Sort Go.Shelf
theorem cells_ys {arr:Array Value}:∀(ys:List ByteArray),(∀j y,ys[j]?=some y->arr[0+j]?=some (Value.string y))->arr.toList.take (ys.map λx=>x.data.toList).length=(ys.map λx=>x.data.toList).map encStr:=by
 intro ys h
 apply List.ext_getElem?
 intro j
 rw[List.length_map,List.map_map]
 by_cases hj:j<ys.length
 ·rw[List.getElem?_take_of_lt hj,Array.getElem?_toList]
  have:=h j ys[j] (List.getElem?_eq_getElem hj)
  rw[Nat.zero_add]at this
  rw[this,List.getElem?_map,List.getElem?_eq_getElem hj]
  exact congrArg some (encStr_data ys[j]).symm
 ·rw[List.getElem?_take_eq_none (by omega),List.getElem?_eq_none (by simp;omega)]
theorem absS_len:∀zs:List ByteArray,((zs.map absS).flatten).length=zs.length
 | []=>rfl
 |z::zs=>by simp only[List.map_cons,List.flatten_cons,List.length_append,absS_len zs,absS,List.length_cons,List.length_nil];omega
theorem hSortStr_ok (E:Env) {i:Ty}(hi:E.ty 9=some i)(h1:i.size=1):HspecOk Tryz.prog E 69 (hSortStr 9):=by
 intro c vs xs v σ' hs hv h
 unfold hSortStr at h
 split at h
 ·injection h with h;injection h with e1 e2
  subst e1 e2
  cases hv with
  |cons _ y _ zs hv1 hv2=>
  cases hv2
  have hy:y=.slice none 0 0:=by cases hv1 with | inl h=>cases h;rfl
  subst hy
  refine .inl ⟨Tryz.call69 _ _,(AnyM.slices_Sort_string_none Tryz.sort69 none 0 c.w).mono ?_⟩
  rintro e w' ⟨rfl,rfl⟩
  exact⟨_,rfl,c,rfl,rfl,Ext.refl c,hs,.tup [] [] .nil⟩
 ·rename_i b len cap
  split at h
  case h_2=>cases h
  rename_i u cs ex hb
  split at h
  case h_2=>cases h
  rename_i h2 h3 h4 h5
  injection h with h;injection h with e1 e2
  subst e1 e2
  have h2:=Nat.eq_of_beq_eq_true h2
  have h3:=Nat.eq_of_beq_eq_true h3
  have h5:=Nat.le_of_ble_eq_true h5
  subst h2
  cases hv with
  |cons _ y _ zs hv1 hv2=>
  cases hv2
  obtain⟨arr,k1,k2,k3,k4,k5,k6,k7⟩:=hs.obj b _ hb
  obtain⟨ys,e,hy⟩:=cells_of_list k7 cs 0 (λj w hj=>by rw[Nat.zero_add];exact hj) h4
  have hl:ys.length=cs.length:=by
   have:=congrArg List.length e
   simpa using this.symm
  have hlv:live c.Z b:=⟨_,hb,rfl⟩
  cases hv1 with
  |inl h=>cases h
  |sl _ _ _ _ cap' g2 g3 g4 g5=>
   have hH:=holds_of_block (ss:=ys.map λx=>x.data.toList) k1 (cells_ys ys hy)
   have hgl:c.blk b<c.w.heap.size:=(Array.getElem?_eq_some_iff.1 k1).1
   have cS:=AnyM.slices_Sort_string Tryz.sort69 (c.blk b) 0 cap' (ys.map λx=>x.data.toList) c.w hH hgl (by rw[List.length_map];omega)
   rw[List.length_map,hl,<- h3,merge_sortA]at cS
   refine .inl ⟨Tryz.call69 _ _,cS.mono ?_⟩
   rintro e' w' ⟨rfl,n,os,rfl⟩
   refine⟨_,rfl,?_⟩
   have hp:=(sortA_perm (lt:=ltS) ys).length_eq
   have hheap:=heap_sorted (n:=n) (os:=os) ((sortA ltS ys).map λx=>x.data.toList).toArray k1
   have hgrow:=grownBy_sorted (w:=c.w) (g:=c.blk b) (n:=n) (os:=os) ((sortA ltS ys).map λx=>x.data.toList).toArray
   have htake:=take_putCells arr ((sortA ltS ys).map λx=>x.data.toList) (by rw[List.length_map,hp,hl];exact k4)
   rw[<- flat_encS]at htake
   generalize grow (putRow encStr (Sort.ahead c.w n) (c.blk b) 0 ((sortA ltS ys).map λx=>x.data.toList).toArray) os=w' at *
   have hsz:(putCells encStr 0 ((sortA ltS ys).map λx=>x.data.toList).toArray arr).size=arr.size:=by simp[putCells]
   generalize putCells encStr 0 ((sortA ltS ys).map λx=>x.data.toList).toArray arr=arr' at *
   obtain⟨f1,f2,f3⟩:=flatS (sortA ltS ys)
   have hrows:(sortK strLt (cs.map λv=>[v])).flatten=((sortA ltS ys).map absS).flatten:=by
    rw[e,sortK_map absS];rfl
   rw[hrows]
   have hlen:(((sortA ltS ys).map absS).flatten).length=cs.length:=by
    rw[absS_len,hp,hl]
   let c1:=c.put b (.cells arr' 9 (0,0)) (.cells 9 ((sortA ltS ys).map absS).flatten ex)
   have x1:Ext c c1:=Cx.put_ext hlv _ _
   have s1:SR E c1:=Cx.put_sr hs hlv _ _ ⟨arr',by
    show (c.w.heap.setIfInBounds (c.blk b) _)[c.blk b]?=_
    simp[hgl],hsz.trans k2,k3,by rw[hlen,hsz];exact k4,λe=>by rw[hlen,hsz];exact k5 e,f2,λj a hj=>by
     obtain⟨x,q1,q2⟩:=f3 c1 j a hj
     refine⟨x,?_,q2⟩
     rw[<- htake]at q1
     have hjl:j<((sortA ltS ys).map λx=>x.data.toList).length:=by
      rw[List.length_map,hp,hl,<- hlen]
      exact (List.getElem?_eq_some_iff.1 hj).1
     rw[List.getElem?_take_of_lt hjl,Array.getElem?_toList]at q1
     exact q1⟩
   have hc1:c1.w.heap.size=c.w.heap.size:=by simp[c1,Cx.put]
   obtain⟨x2,s2⟩:=grow_ok s1 (w:=w') (by rw[hc1];exact hgrow.size) (λk hk=>by
    rw[hc1]at hk
    by_cases hkb:k=c.blk b
    ·subst hkb
     rw[hheap]
     simp[c1,Cx.put,hgl]
    ·rw[hgrow.block k hk (λe=>hkb (Option.some.inj e))]
     simp[c1,Cx.put,Array.getElem?_setIfInBounds,Ne.symm hkb]) hgrow.os hgrow.tape hgrow.output
   exact⟨c1.outer w',rfl,rfl,x1.trans x2,s2,.tup [] [] .nil⟩
 ·cases h
end Go.AxC
end
section
namespace Go.Proofs
open Go.Shelf
def Tryz.grow45_ren:Go.Shelf.Ren:=⟨fun | 4=>45 | n=>n,fun | 22=>22 | 25=>36 | 3=>3 | 4=>4 | 9=>9 | 20=>20 | 0=>0 | n=>n,fun | n=>n⟩
theorem Tryz.grow45:Go.Proofs.Lays8.n4 Tryz.prog Tryz.grow45_ren:={
 mixed:=by kernel_rfl
 f4:=⟨Tryz.f45.name,by decide,Tryz.func45.trans (congrArg some (by kernel_rfl))⟩
 t0:=Tryz.underlying0
 a0:=Tryz.isAgg0
 z0:=Tryz.sizeOf0
 v0:=Tryz.zeroValue0
 t3:=Tryz.underlying3
 a3:=Tryz.isAgg3
 z3:=Tryz.sizeOf3
 v3:=Tryz.zeroValue3
 t4:=Tryz.underlying4
 a4:=Tryz.isAgg4
 z4:=Tryz.sizeOf4
 v4:=Tryz.zeroValue4
 t9:=Tryz.underlying9
 a9:=Tryz.isAgg9
 z9:=Tryz.sizeOf9
 v9:=Tryz.zeroValue9
 t20:=Tryz.underlying20
 a20:=Tryz.isAgg20
 z20:=Tryz.sizeOf20
 v20:=Tryz.zeroValue20
 t22:=Tryz.underlying22
 a22:=Tryz.isAgg22
 z22:=Tryz.sizeOf22
 v22:=Tryz.zeroValue22 }
def Tryz.grow46_ren:Go.Shelf.Ren:=⟨fun | 4=>46 | n=>n,fun | 22=>33 | 25=>9 | 3=>3 | 4=>4 | 9=>9 | 20=>20 | 0=>0 | n=>n,fun | n=>n⟩
theorem Tryz.grow46:Go.Proofs.Lays8.n4 Tryz.prog Tryz.grow46_ren:={
 mixed:=by kernel_rfl
 f4:=⟨Tryz.f46.name,by decide,Tryz.func46.trans (congrArg some (by kernel_rfl))⟩
 t0:=Tryz.underlying0
 a0:=Tryz.isAgg0
 z0:=Tryz.sizeOf0
 v0:=Tryz.zeroValue0
 t3:=Tryz.underlying3
 a3:=Tryz.isAgg3
 z3:=Tryz.sizeOf3
 v3:=Tryz.zeroValue3
 t4:=Tryz.underlying4
 a4:=Tryz.isAgg4
 z4:=Tryz.sizeOf4
 v4:=Tryz.zeroValue4
 t9:=Tryz.underlying9
 a9:=Tryz.isAgg9
 z9:=Tryz.sizeOf9
 v9:=Tryz.zeroValue9
 t20:=Tryz.underlying20
 a20:=Tryz.isAgg20
 z20:=Tryz.sizeOf20
 v20:=Tryz.zeroValue20
 t22:=Tryz.underlying33
 a22:=Tryz.isAgg33
 z22:=Tryz.sizeOf33
 v22:=Tryz.zeroValue33 }
end Go.Proofs
end
section
namespace Go.Proofs.YtjcmjanmooabeaaGreatDoor
open Go Go.Ax
theorem mixed:Tryz.prog.follows .mixedOrders=true:=by kernel_rfl
noncomputable def bare:Ax.Ground Tryz.prog:={ ground with hspec:=.nil,mode:=modeTab.put 51 Ax.Mode.iso }
theorem lies:∀t,ground.lie t=true->liesAt Tryz.prog Tryz.prog.depth t 1 0 t 1=true:=by
 intro t h
 have h':Nat.beq t 193=true:=h
 have e:=Nat.eq_of_beq_eq_true h'
 subst e
 show liesAt Tryz.prog Tryz.prog.depth 193 1 0 193 1=true
 kernel_rfl
theorem bareOk:GroundOk bare:=⟨tyTab_ok,fnTab_ok,eqTab_ok,lies,trivial⟩
theorem bareEnv:EnvOk Tryz.prog (bare.env .nil):=bareOk.envOk _
theorem bareFns:FnsOk Tryz.prog (bare.env .nil):=bareOk.fnsOk (s:=.nil) trivial
theorem alikeB:Ax.Alike (bare.env .nil) (ground.env .nil):=⟨rfl,rfl⟩
theorem sok266:SpecOk Tryz.prog (ground.env .nil) 266 specIndexByte:=specIndexByte_ok _
theorem sok155:SpecOk Tryz.prog (ground.env .nil) 155 specSplit:=specSplit_ok _ rfl
theorem sok304:SpecOk Tryz.prog (ground.env .nil) 304 specCut:=specCut_ok _ rfl
theorem sok70:SpecOk Tryz.prog (ground.env .nil) 70 specBack:=
 (specBack_ok (E:=bare.env .nil) bareEnv bareFns mixed (by kernel_rfl) (by kernel_rfl) (by kernel_rfl) (by kernel_rfl) (by kernel_rfl) (by kernel_rfl) (by kernel_rfl) (by kernel_rfl) (by kernel_rfl) (by kernel_rfl) (by kernel_rfl) (by kernel_rfl) (by kernel_rfl) (by kernel_rfl) (by kernel_rfl)).alike alikeB
theorem sok56:SpecOk Tryz.prog (ground.env .nil) 56 specRepl:=specRepl_ok Tryz.lays155 Tryz.Builder_Extra_155 rfl rfl rfl Tryz.call56
theorem hok46:HspecOk Tryz.prog (ground.env .nil) 46 (hGrow 9):=hGrow_ok Tryz.grow46 rfl rfl (i:=ty9) (by kernel_rfl) (bareEnv.ty _ _ (by kernel_rfl)) (by decide) (by decide) Tryz.call46
theorem hok45:HspecOk Tryz.prog (ground.env .nil) 45 (hGrow 36):=hGrow_ok Tryz.grow45 rfl rfl (i:=({ kd:=.strct [(0,9),(1,33),(2,33),(3,33),(4,34)],size:=5,bytes:=112,zero:=.agg [.str [],.nils,.nils,.nils,.nils] }:Ty)) (by kernel_rfl) (bareEnv.ty _ _ (by kernel_rfl)) (by decide) (by decide) Tryz.call45
theorem hok143:HspecOk Tryz.prog (ground.env .nil) 143 (hSortedStr 9 [187,318] [262]):=
 Go.AxC.hSortedStr_ok (i:=ty9) (by kernel_rfl) (by kernel_rfl)
theorem hok136:HspecOk Tryz.prog (ground.env .nil) 136 (hSortedLab 105 [184] [] 138):=
 Go.AxC.hSortedLab_ok (i:=ty105) (by kernel_rfl) (by kernel_rfl)
theorem hok125:HspecOk Tryz.prog (ground.env .nil) 125 hCopy:=
 (hCopy_ok (E:=bare.env .nil) bareEnv bareFns mixed (by kernel_rfl) (sz:=ty90.size) (by_:=ty90.bytes) (zv:=ty90.zero) (sz9:=ty9.size) (by9:=ty9.bytes) (z9:=ty9.zero) (by kernel_rfl) (by kernel_rfl)).alike alikeB
theorem hok69:HspecOk Tryz.prog (ground.env .nil) 69 (hSortStr 9):=Go.AxC.hSortStr_ok _ (i:=ty9) (by kernel_rfl) (by kernel_rfl)
theorem hok243:HspecOk Tryz.prog (ground.env .nil) 243 hEscape:=hEscape_ok _
theorem hok244:HspecOk Tryz.prog (ground.env .nil) 244 (hMake 5):=hMake_ok _ (i:=ty5) (by kernel_rfl) (by kernel_rfl) Tryz.underlying5
theorem groundOk:GroundOk ground:=⟨tyTab_ok,fnTab_ok,eqTab_ok,lies,⟨⟨⟨hok45,hok46⟩,⟨hok69,hok125⟩⟩,⟨⟨hok136,hok143⟩,⟨hok243,hok244⟩⟩⟩⟩
abbrev SpOk (s:BT (List V->Option V)):Prop:=s.All (SpecOk Tryz.prog (ground.env .nil))
abbrev SpI (f:Nat) (t:List (List V × V)):Prop:=SpecOk Tryz.prog (ground.env .nil) f (memoSpec t)
theorem sp0_ok:SpOk sp0:=⟨⟨sok56,sok70⟩,⟨sok155,⟨sok266,sok304⟩⟩⟩
theorem memoOk {s:BT (List V->Option V)}(hs:SpOk s) {f:Nat}{F:Ax.Fn}(hF:fnTab.get f=some F) {t:List (List V × V)}(h:reck (ground.env s) f t=true):SpecOk Tryz.prog (ground.env .nil) f (memoSpec t):=groundOk.memo hs mixed hF (reck_ok h)
theorem putOk {s:BT (List V->Option V)}{f:Nat}{t:List (List V × V)}(h:SpI f t) (k:SpOk s):SpOk (s.put f (memoSpec t)):=BT.put_all (p:=SpecOk Tryz.prog (ground.env .nil)) h k
theorem sok265:SpI 265 t265:=memoOk sp0_ok (F:=fnOf Tryz.f265) (by kernel_rfl) a265
theorem sp1_ok:SpOk sp1:=putOk sok265 sp0_ok
theorem sok230:SpI 230 t230:=memoOk sp1_ok (F:=fnOf Tryz.f230) (by kernel_rfl) a230
theorem sp2_ok:SpOk sp2:=putOk sok230 sp1_ok
theorem sok193:SpI 193 t193:=memoOk sp2_ok (F:=fnOf Tryz.f193) (by kernel_rfl) a193
theorem sp3_ok:SpOk sp3:=putOk sok193 sp2_ok
theorem sok164:SpI 164 t164:=memoOk sp3_ok (F:=fnOf Tryz.f164) (by kernel_rfl) a164
theorem sp4_ok:SpOk sp4:=putOk sok164 sp3_ok
theorem sok109:SpI 109 t109:=memoOk sp4_ok (F:=fnOf Tryz.f109) (by kernel_rfl) a109
theorem sp5_ok:SpOk sp5:=putOk sok109 sp4_ok
theorem sok167:SpI 167 t167:=memoOk sp5_ok (F:=fnOf Tryz.f167) (by kernel_rfl) a167
theorem sp6_ok:SpOk sp6:=putOk sok167 sp5_ok
theorem sok65:SpI 65 t65:=memoOk sp6_ok (F:=fnOf Tryz.f65) (by kernel_rfl) a65
theorem sp7_ok:SpOk sp7:=putOk sok65 sp6_ok
theorem sok47:SpI 47 t47:=memoOk sp7_ok (F:=fnOf Tryz.f47) (by kernel_rfl) a47
theorem sp8_ok:SpOk sp8:=putOk sok47 sp7_ok
theorem sok68:SpI 68 t68:=memoOk sp8_ok (F:=fnOf Tryz.f68) (by kernel_rfl) a68
theorem sp9_ok:SpOk sp9:=putOk sok68 sp8_ok
theorem sok48:SpI 48 t48:=memoOk sp9_ok (F:=fnOf Tryz.f48) (by kernel_rfl) a48
theorem sp10_ok:SpOk sp10:=putOk sok48 sp9_ok
theorem sok20:SpI 20 t20:=memoOk sp10_ok (F:=fnOf Tryz.f20) (by kernel_rfl) a20
theorem sp11_ok:SpOk sp11:=putOk sok20 sp10_ok
theorem sok119:SpI 119 t119:=memoOk sp11_ok (F:=fnOf Tryz.f119) (by kernel_rfl) a119
theorem sp12_ok:SpOk sp12:=putOk sok119 sp11_ok
theorem sok73:SpI 73 t73:=memoOk sp12_ok (F:=fnOf Tryz.f73) (by kernel_rfl) a73
theorem sp13_ok:SpOk sp13:=putOk sok73 sp12_ok
theorem sok124:SpI 124 t124:=memoOk sp13_ok (F:=fnOf Tryz.f124) (by kernel_rfl) a124
theorem sp14_ok:SpOk sp14:=putOk sok124 sp13_ok
theorem sok84:SpI 84 t84:=memoOk sp14_ok (F:=fnOf Tryz.f84) (by kernel_rfl) a84
theorem sp15_ok:SpOk sp15:=putOk sok84 sp14_ok
theorem sok85:SpI 85 t85:=memoOk sp15_ok (F:=fnOf Tryz.f85) (by kernel_rfl) a85
theorem sp16_ok:SpOk sp16:=putOk sok85 sp15_ok
theorem sok75:SpI 75 t75:=memoOk sp16_ok (F:=fnOf Tryz.f75) (by kernel_rfl) a75
theorem sp17_ok:SpOk sp17:=putOk sok75 sp16_ok
theorem sok77:SpI 77 t77:=memoOk sp17_ok (F:=fnOf Tryz.f77) (by kernel_rfl) a77
theorem sp18_ok:SpOk sp18:=putOk sok77 sp17_ok
theorem sok96:SpI 96 t96:=memoOk sp18_ok (F:=fnOf Tryz.f96) (by kernel_rfl) a96
theorem sp19_ok:SpOk sp19:=putOk sok96 sp18_ok
theorem sok101:SpI 101 t101:=memoOk sp19_ok (F:=fnOf Tryz.f101) (by kernel_rfl) a101
theorem sp20_ok:SpOk sp20:=putOk sok101 sp19_ok
theorem sok104:SpI 104 t104:=memoOk sp20_ok (F:=fnOf Tryz.f104) (by kernel_rfl) a104
theorem sp21_ok:SpOk sp21:=putOk sok104 sp20_ok
theorem sok196:SpI 196 t196:=memoOk sp21_ok (F:=fnOf Tryz.f196) (by kernel_rfl) a196
theorem sp22_ok:SpOk sp22:=putOk sok196 sp21_ok
theorem sok197:SpI 197 t197:=memoOk sp22_ok (F:=fnOf Tryz.f197) (by kernel_rfl) a197
theorem sp23_ok:SpOk sp23:=putOk sok197 sp22_ok
theorem sok200:SpI 200 t200:=memoOk sp23_ok (F:=fnOf Tryz.f200) (by kernel_rfl) a200
theorem sp24_ok:SpOk sp24:=putOk sok200 sp23_ok
theorem sok235:SpI 235 t235:=memoOk sp24_ok (F:=fnOf Tryz.f235) (by kernel_rfl) a235
theorem sp25_ok:SpOk sp25:=putOk sok235 sp24_ok
theorem sok152:SpI 152 t152:=memoOk sp25_ok (F:=fnOf Tryz.f152) (by kernel_rfl) a152
theorem sp26_ok:SpOk sp26:=putOk sok152 sp25_ok
theorem sok55:SpI 55 t55:=memoOk sp26_ok (F:=fnOf Tryz.f55) (by kernel_rfl) a55
theorem sp27_ok:SpOk sp27:=putOk sok55 sp26_ok
theorem sok140:SpI 140 t140:=memoOk sp27_ok (F:=fnOf Tryz.f140) (by kernel_rfl) a140
theorem sp28_ok:SpOk sp28:=putOk sok140 sp27_ok
theorem sok129:SpI 129 t129:=memoOk sp28_ok (F:=fnOf Tryz.f129) (by kernel_rfl) a129
theorem sp29_ok:SpOk sp29:=putOk sok129 sp28_ok
theorem sok54:SpI 54 t54:=memoOk sp29_ok (F:=fnOf Tryz.f54) (by kernel_rfl) a54
theorem sp30_ok:SpOk sp30:=putOk sok54 sp29_ok
theorem sok37:SpI 37 t37:=memoOk sp30_ok (F:=fnOf Tryz.f37) (by kernel_rfl) a37
theorem sp31_ok:SpOk sp31:=putOk sok37 sp30_ok
theorem sok38:SpI 38 t38:=memoOk sp31_ok (F:=fnOf Tryz.f38) (by kernel_rfl) a38
theorem sp32_ok:SpOk sp32:=putOk sok38 sp31_ok
theorem sok14:SpI 14 t14:=memoOk sp32_ok (F:=fnOf Tryz.f14) (by kernel_rfl) a14
theorem sp33_ok:SpOk sp33:=putOk sok14 sp32_ok
theorem sok72:SpI 72 t72:=memoOk sp33_ok (F:=fnOf Tryz.f72) (by kernel_rfl) a72
theorem sp34_ok:SpOk sp34:=putOk sok72 sp33_ok
theorem sok8:SpI 8 t8:=memoOk sp34_ok (F:=fnOf Tryz.f8) (by kernel_rfl) a8
noncomputable def spL:BT (List V->Option V):=(.node 155 (.node 56 (.leaf 8 (memoSpec t8)) (.node 70 (.leaf 56 specRepl) (.leaf 70 specBack))) (.node 266 (.leaf 155 specSplit) (.node 304 (.leaf 266 specIndexByte) (.leaf 304 specCut))))
noncomputable def LE:Env:=ground.env spL
end Go.Proofs.YtjcmjanmooabeaaGreatDoor
end
section
namespace Go.Proofs.YtjcmjanmooabeaaGreatDoor
open Go Go.Ax Go.ChangeShapes Go.WideShapes Go.ChangeAt Go.RowKit
theorem spL_ok:spL.All (SpecOk Tryz.prog (ground.env .nil)):=⟨⟨sok8,⟨sok56,sok70⟩⟩,⟨sok155,⟨sok266,sok304⟩⟩⟩
theorem ax_calls {G:Ax.Ground Tryz.prog}(hG:GroundOk G)(hgl:G.gl=glMax) {s:BT (List V->Option V)}(hs:s.All (SpecOk Tryz.prog (G.env .nil))) {n f:Nat}{vs:List V}{W:World}(hW:W.ShapedOpen Tryz.prog)(h:Ax.call (G.env s) n f vs=some (.bool true)) {xs:List Value}(hv:VRs (topCx W) vs xs) :
  Calls Tryz.prog f xs.toArray W λe W'=>e=.returned (.bool true)/\Below W.heap.size W W':=by
 refine (call_sound (hG.envOk s) (hG.fnsOk hs) mixed h (d:=topCx W) rfl (top_sr hW hgl) hv).mono ?_
 rintro e w' ⟨x,d',rfl,rfl,h1,h2,h3,h4⟩
 have hx:=h4.bool_inv
 subst hx
 exact⟨rfl,h2.os,h2.tape,h2.output,h2.size,λk hk=>(h2.keep k hk λ⟨b,⟨o,ho,_⟩,_⟩=>by cases ho).1⟩
end Go.Proofs.YtjcmjanmooabeaaGreatDoor
end
section
namespace Go.Proofs.YtjcmjanmooabeaaGreatDoor
open Go Go.Ax
theorem run_passNone:∃k,Ax.call LE k 3 []=some (.bool true):=⟨100000,by kernel_rfl⟩
end Go.Proofs.YtjcmjanmooabeaaGreatDoor
end
