/- Part 4 of the proof. -/
import Derived.Test.YtjcmjanmooabeaaGreatDoorZ3
import Derived.Test.YtjcmjanmooabeaaGreatDoorProg
import Derived.KernelRfl
import Derived.Test.YtjcmjanmooabeaaGreatDoorZ1
import Derived.Shelf.Spec.SlicesGrow
import Derived.Shelf.Strings.Replace
set_option maxHeartbeats 8000000
set_option linter.unusedVariables false
set_option linter.unusedSimpArgs false
section
namespace Go.Proofs.YtjcmjanmooabeaaGreatDoor
open Go Go.Ax
noncomputable def tyTab:BT Ty:=BT.rng (tyAt Tryz.prog) 9 0
theorem tyTab_ok:tyTab.All (TyOk Tryz.prog):=by unfold tyTab;exact BT.rng_all (g:=tyAt Tryz.prog) (p:=TyOk Tryz.prog) (λ_ _ h=>tyAt_ok h) 9 0
theorem noGo:(Tryz.prog.funcs.all λfn=>!(fn.name == "runtime.NumGoroutine"))=true:=by kernel_rfl
noncomputable def fnTab:BT Ax.Fn:=BT.rng (fnAt Tryz.prog) 9 0
theorem fnTab_ok:fnTab.All (FnOk Tryz.prog):=by unfold fnTab;exact BT.rng_all (g:=fnAt Tryz.prog) (p:=FnOk Tryz.prog) (λ_ _ h=>fnAt_ok noGo h) 9 0
def ty5:Ty:={ kd:=.int .u8,size:=1,bytes:=1,zero:=.int .u8 0 }
def ty9:Ty:={ kd:=.str,size:=1,bytes:=16,zero:=.str [] }
def ty90:Ty:={ kd:=.map 9 4,size:=1,bytes:=8,zero:=.nilm }
def ty105:Ty:={ kd:=.strct [(0,4),(1,9)],size:=2,bytes:=24,zero:=.agg [.bool false,.str []] }
theorem eqok7:EqOk Tryz.prog 7 [.int .i64,.int .i64,.bool,.int .u8]:=EqOk.of Tryz.underlying7 (by kernel_rfl) (by kernel_rfl) (.cons 0 _ _ _ _ _ (by decide) rfl Tryz.underlying2 rfl (.cons 1 _ _ _ _ _ (by decide) rfl Tryz.underlying3 rfl (.cons 2 _ _ _ _ _ (by decide) rfl Tryz.underlying4 rfl (.cons 3 _ _ _ _ _ (by decide) rfl Tryz.underlying6 rfl (.nil 4)))))
theorem eqok8:EqOk Tryz.prog 8 [.int .i64,.int .i64,.bool,.int .u8]:=EqOk.of Tryz.underlying8 (by kernel_rfl) (by kernel_rfl) (.cons 0 _ _ _ _ _ (by decide) rfl Tryz.underlying2 rfl (.cons 1 _ _ _ _ _ (by decide) rfl Tryz.underlying3 rfl (.cons 2 _ _ _ _ _ (by decide) rfl Tryz.underlying4 rfl (.cons 3 _ _ _ _ _ (by decide) rfl Tryz.underlying6 rfl (.nil 4)))))
theorem eqok54:EqOk Tryz.prog 54 [.int .i64,.str,.str]:=EqOk.of Tryz.underlying54 (by kernel_rfl) (by kernel_rfl) (.cons 0 _ _ _ _ _ (by decide) rfl Tryz.underlying3 rfl (.cons 1 _ _ _ _ _ (by decide) rfl Tryz.underlying9 rfl (.cons 2 _ _ _ _ _ (by decide) rfl Tryz.underlying9 rfl (.nil 3))))
theorem eqok55:EqOk Tryz.prog 55 [.int .i64,.str,.str]:=EqOk.of Tryz.underlying55 (by kernel_rfl) (by kernel_rfl) (.cons 0 _ _ _ _ _ (by decide) rfl Tryz.underlying3 rfl (.cons 1 _ _ _ _ _ (by decide) rfl Tryz.underlying9 rfl (.cons 2 _ _ _ _ _ (by decide) rfl Tryz.underlying9 rfl (.nil 3))))
theorem eqok104:EqOk Tryz.prog 104 [.bool,.str]:=EqOk.of Tryz.underlying104 (by kernel_rfl) (by kernel_rfl) (.cons 0 _ _ _ _ _ (by decide) rfl Tryz.underlying4 rfl (.cons 1 _ _ _ _ _ (by decide) rfl Tryz.underlying9 rfl (.nil 2)))
theorem eqok105:EqOk Tryz.prog 105 [.bool,.str]:=EqOk.of Tryz.underlying105 (by kernel_rfl) (by kernel_rfl) (.cons 0 _ _ _ _ _ (by decide) rfl Tryz.underlying4 rfl (.cons 1 _ _ _ _ _ (by decide) rfl Tryz.underlying9 rfl (.nil 2)))
theorem eqok133:EqOk Tryz.prog 133 [.bool,.str]:=EqOk.of Tryz.underlying133 (by kernel_rfl) (by kernel_rfl) (.cons 0 _ _ _ _ _ (by decide) rfl Tryz.underlying4 rfl (.cons 1 _ _ _ _ _ (by decide) rfl Tryz.underlying9 rfl (.nil 2)))
theorem eqok134:EqOk Tryz.prog 134 [.bool,.str]:=EqOk.of Tryz.underlying134 (by kernel_rfl) (by kernel_rfl) (.cons 0 _ _ _ _ _ (by decide) rfl Tryz.underlying4 rfl (.cons 1 _ _ _ _ _ (by decide) rfl Tryz.underlying9 rfl (.nil 2)))
theorem eqok138:EqOk Tryz.prog 138 [.str,.str]:=EqOk.of Tryz.underlying138 (by kernel_rfl) (by kernel_rfl) (.cons 0 _ _ _ _ _ (by decide) rfl Tryz.underlying9 rfl (.cons 1 _ _ _ _ _ (by decide) rfl Tryz.underlying9 rfl (.nil 2)))
theorem eqok139:EqOk Tryz.prog 139 [.str,.str]:=EqOk.of Tryz.underlying139 (by kernel_rfl) (by kernel_rfl) (.cons 0 _ _ _ _ _ (by decide) rfl Tryz.underlying9 rfl (.cons 1 _ _ _ _ _ (by decide) rfl Tryz.underlying9 rfl (.nil 2)))
theorem eqok226:EqOk Tryz.prog 226 [.int .i64,.int .i64]:=EqOk.of Tryz.underlying226 (by kernel_rfl) (by kernel_rfl) (.cons 0 _ _ _ _ _ (by decide) rfl Tryz.underlying26 rfl (.cons 1 _ _ _ _ _ (by decide) rfl Tryz.underlying3 rfl (.nil 2)))
theorem eqok227:EqOk Tryz.prog 227 [.int .i64,.int .i64]:=EqOk.of Tryz.underlying227 (by kernel_rfl) (by kernel_rfl) (.cons 0 _ _ _ _ _ (by decide) rfl Tryz.underlying26 rfl (.cons 1 _ _ _ _ _ (by decide) rfl Tryz.underlying3 rfl (.nil 2)))
theorem eqok232:EqOk Tryz.prog 232 [.int .i64,.int .i64,.str]:=EqOk.of Tryz.underlying232 (by kernel_rfl) (by kernel_rfl) (.cons 0 _ _ _ _ _ (by decide) rfl Tryz.underlying3 rfl (.cons 1 _ _ _ _ _ (by decide) rfl Tryz.underlying3 rfl (.cons 2 _ _ _ _ _ (by decide) rfl Tryz.underlying9 rfl (.nil 3))))
theorem eqok233:EqOk Tryz.prog 233 [.int .i64,.int .i64,.str]:=EqOk.of Tryz.underlying233 (by kernel_rfl) (by kernel_rfl) (.cons 0 _ _ _ _ _ (by decide) rfl Tryz.underlying3 rfl (.cons 1 _ _ _ _ _ (by decide) rfl Tryz.underlying3 rfl (.cons 2 _ _ _ _ _ (by decide) rfl Tryz.underlying9 rfl (.nil 3))))
theorem eqok272:EqOk Tryz.prog 272 [.int .u8,.int .u8]:=EqOk.of Tryz.underlying272 (by kernel_rfl) (by kernel_rfl) (.cons 0 _ _ _ _ _ (by decide) rfl Tryz.underlying5 rfl (.cons 1 _ _ _ _ _ (by decide) rfl Tryz.underlying5 rfl (.nil 2)))
theorem eqok273:EqOk Tryz.prog 273 [.int .u8,.int .u8]:=EqOk.of Tryz.underlying273 (by kernel_rfl) (by kernel_rfl) (.cons 0 _ _ _ _ _ (by decide) rfl Tryz.underlying5 rfl (.cons 1 _ _ _ _ _ (by decide) rfl Tryz.underlying5 rfl (.nil 2)))
theorem eqok338:EqOk Tryz.prog 338 [.str]:=EqOk.of Tryz.underlying338 (by kernel_rfl) (by kernel_rfl) (.cons 0 _ _ _ _ _ (by decide) rfl Tryz.underlying9 rfl (.nil 1))
theorem eqok339:EqOk Tryz.prog 339 [.str]:=EqOk.of Tryz.underlying339 (by kernel_rfl) (by kernel_rfl) (.cons 0 _ _ _ _ _ (by decide) rfl Tryz.underlying9 rfl (.nil 1))
def eqTab:BT (List Kd):=(.node 139 (.node 104 (.node 54 (.node 8 (.leaf 7 [.int .i64,.int .i64,.bool,.int .u8]) (.leaf 8 [.int .i64,.int .i64,.bool,.int .u8])) (.node 55 (.leaf 54 [.int .i64,.str,.str]) (.leaf 55 [.int .i64,.str,.str]))) (.node 133 (.node 105 (.leaf 104 [.bool,.str]) (.leaf 105 [.bool,.str])) (.node 134 (.leaf 133 [.bool,.str]) (.node 138 (.leaf 134 [.bool,.str]) (.leaf 138 [.str,.str]))))) (.node 233 (.node 227 (.node 226 (.leaf 139 [.str,.str]) (.leaf 226 [.int .i64,.int .i64])) (.node 232 (.leaf 227 [.int .i64,.int .i64]) (.leaf 232 [.int .i64,.int .i64,.str]))) (.node 273 (.node 272 (.leaf 233 [.int .i64,.int .i64,.str]) (.leaf 272 [.int .u8,.int .u8])) (.node 338 (.leaf 273 [.int .u8,.int .u8]) (.node 339 (.leaf 338 [.str]) (.leaf 339 [.str]))))))
theorem eqTab_ok:eqTab.All (EqOk Tryz.prog):=⟨⟨⟨⟨eqok7,eqok8⟩,⟨eqok54,eqok55⟩⟩,⟨⟨eqok104,eqok105⟩,⟨eqok133,⟨eqok134,eqok138⟩⟩⟩⟩,⟨⟨⟨eqok139,eqok226⟩,⟨eqok227,eqok232⟩⟩,⟨⟨eqok233,eqok272⟩,⟨eqok273,⟨eqok338,eqok339⟩⟩⟩⟩⟩
end Go.Proofs.YtjcmjanmooabeaaGreatDoor
end
section
namespace Go.Ax
open Go
def hSortStr (t:Nat):List V->Sg->Option (V × Sg)
 | [.nils],Z=>some (.tup [],Z)
 | [.sl b 0 len _],Z=>match Z[b]? with
  |some (.cells u cs ex)=>match Nat.beq u t,Nat.beq len cs.length,allRows strRow (cs.map λv=>[v]),Nat.ble len 1000000 with
   |true,true,true,true=>some (.tup [],Z.set b (.cells u (sortK strLt (cs.map λv=>[v])).flatten ex))
   |_,_,_,_=>none
  |_=>none
 |_,_=>none
end Go.Ax
end
section
namespace Go.Ax
open Go Go.Proofs Go.Shelf
def hGrow (t:Nat):List V->Sg->Option (V × Sg)
 | [.nils,.int .i64 n],Z=>if n=0 then some (.nils,Z) else if 0<n/\n<=1048576 then some (.sl Z.length 0 0 none,Z++[.cells t [] false]) else none
 |_,_=>none
theorem hGrow_ok {P:Program}{ρ:Ren}{E:Env}{f t:Nat} (L:Lays8.n4 P ρ)(hf:ρ.f 4=f)(ht:ρ.t 25=t) {i:Ty}(hi:E.ty t=some i)(hT:TyOk P t i)
  (h0:0<i.size)(hb:i.bytes<=65536)(hc:∀xs w,(callFunc f xs).run P w=.ok (.enter f xs) w):HspecOk P E f (hGrow t):=by
 obtain⟨i0,hi0,hs,hb',z,hz,hzc,_⟩:=hT.info
 rw[<- hb']at hb
 subst hf ht
 intro c vs xs v σ' hsr hv h
 unfold hGrow at h
 split at h
 case h_2=>cases h
 rename_i n
 cases hv with | cons _ x _ xs hx hr=>
 cases hr with | cons _ y _ ys hy hr=>
 cases hr
 have:=hy.int_inv;subst this
 have hx:x=.slice none 0 0:=by cases hx with | inl h=>cases h;rfl
 subst hx
 split at h
 ·rename_i hn
  subst hn
  injection h with h;injection h with h1 h2;subst h1 h2
  refine .inl ⟨hc _ _,(Any8.slices_Grow_room L none 0 0 0 c.w (by omega) (by omega) (by omega) (by omega)).mono ?_⟩
  rintro e w' ⟨rfl,rfl⟩
  exact⟨_,rfl,c,rfl,rfl,Ext.refl c,hsr,.inl .nils⟩
 split at h
 case isFalse=>cases h
 rename_i hn0 hn
 injection h with h;injection h with h1 h2;subst h1 h2
 obtain⟨k,rfl⟩:∃k:Nat,n=k:=⟨n.toNat,by omega⟩
 have hbig:(0+k)*i0.bytes<=140737488355328:=by
  have:k*i0.bytes<=1048576*65536:=Nat.mul_le_mul (by omega) hb
  rw[Nat.zero_add];omega
 have G:=Any8.slices_Grow_grow L i0 z hi0 hz (by omega) none 0 0 k [] c.w (by omega) (by omega) hbig (by omega) (by simp) (λ_=>rfl) (λa h=>by cases h)
 have hg:k<=grownCap c.w (0+k) 0 (ρ.t 25):=by have:=grownCap_ge c.w (0+k) 0 (ρ.t 25);omega
 generalize grownCap c.w (0+k) 0 (ρ.t 25)=m at G hg
 refine .inl ⟨hc _ _,G.mono ?_⟩
 rintro e w' ⟨rfl,rfl⟩
 have hlen:((Builtin.zeroCells z.cells (0+k-0)++Builtin.zeroCells z.cells (m-(0+k))).toList).length=(m-0)*i.size:=by
  simp only[Array.length_toList,Array.size_append,Builtin.zeroCells,Array.size_map,Array.size_range,hzc]
  rw[<- Nat.add_mul];congr 1;omega
 obtain⟨c',q1,q2,q3,q4,q5⟩:=new_row_drew hsr hi (cs:=[]) (xs:=[]) (ys:=(Builtin.zeroCells z.cells (0+k-0)++Builtin.zeroCells z.cells (m-(0+k))).toList) .nil rfl (len:=0) (nc:=m) (by simp) hlen (by omega)
 refine⟨_,rfl,c',?_,q2,q3,q4,q5⟩
 rw[q1]
 generalize Builtin.zeroCells z.cells (0+k-0)=A
 generalize Builtin.zeroCells z.cells (m-(0+k))=B
 have e:(([]:List Value)++(A++B).toList).toArray=([]:List Value).toArray++A++B:=by simp
 rw[e]
 rfl
def toU8 (l:List Nat):List UInt8:=l.map Nat.toUInt8
def specRepl:List V->Option V
 | [.str s,.str o,.str n]=>if 1<=o.length/\s.length<4294967281/\s.length+Lib.count (toU8 s) (toU8 o)*n.length<=140737488355328 then some (.str ((Lib.replaceAll (toU8 s) (toU8 o) (toU8 n)).map UInt8.toNat)) else none
 |_=>none
theorem toU8_bytes (b:ByteArray):toU8 (bytes b)=b.data.toList:=by
 unfold toU8 bytes
 rw[List.map_map]
 conv=>rhs;rw[<- List.map_id b.data.toList]
 refine List.map_congr_left λx _=>?_
 exact UInt8.toNat_inj.1 (by simp)
theorem specRepl_ok {P:Program}{ρ:Ren}{E:Env}{f:Nat} (L:Lays.n155 P ρ) (X:Builder.Extra P ρ)(hf:ρ.f 155=f)(hg:ρ.g 1=0)(hE:E.gl=glMax)(hc:∀xs w,(callFunc f xs).run P w=.ok (.enter f xs) w):SpecOk P E f specRepl:=by
 subst hf
 intro d vs xs v hσ hs hv h
 unfold specRepl at h
 split at h
 case h_2=>cases h
 rename_i s o n
 split at h
 case isFalse=>cases h
 rename_i hq
 obtain⟨h1,h2,h3⟩:=hq
 injection h with h;subst h
 cases hv with | cons _ x _ xs hx hr=>
 cases hr with | cons _ y _ ys hy hr=>
 cases hr with | cons _ z _ zs hz hr=>
 cases hr
 obtain⟨b,rfl,hb⟩:=hx.str_inv
 obtain⟨p,rfl,hp⟩:=hy.str_inv
 obtain⟨q,rfl,hq⟩:=hz.str_inv
 subst hb hp hq
 obtain⟨o',g1,⟨m,t,fr,rfl⟩,_⟩:=hs.gl 0 (λo=>∃m t fr,o=.cells #[.int .i64 m] t fr) (by rw[hE];rfl)
 have hm:d.w.cell? ⟨(ρ.g 1),0,none⟩=some (.int .i64 m):=by
  rw[hg]
  unfold World.cell?
  simp only[g1]
  rfl
 have len:∀c:ByteArray,(bytes c).length=c.size:=λc=>by simp[bytes]
 rw[len]at h1 h2 h3
 rw[len,toU8_bytes,toU8_bytes]at h3
 refine .inl ⟨hc _ _,(Any.strings_ReplaceAll L X b p q m d.w h2 hm h1 h3).mono ?_⟩
 rintro e w' ⟨rfl,hB⟩
 obtain⟨k1,k2⟩:=grow_ok hs (w:=w') hB.size (λk hk=>hB.block k hk) hB.os hB.tape hB.output
 refine⟨_,rfl,d.outer w',rfl,hσ,k1,k2,?_⟩
 rw[toU8_bytes,toU8_bytes,toU8_bytes]
 have:bytes ⟨(Lib.replaceAll b.data.toList p.data.toList q.data.toList).toArray⟩=(Lib.replaceAll b.data.toList p.data.toList q.data.toList).map UInt8.toNat:=by simp[bytes]
 rw[<- this]
 exact .inl (.str _)
end Go.Ax
end
section
namespace Go.Proofs.YtjcmjanmooabeaaGreatDoor
open Go Go.Ax
def modeTab:BT Ax.Mode:=(.node 170 (.node 49 (.node 24 (.node 15 (.node 7 (.node 5 (.leaf 4 Ax.Mode.shared) (.node 6 (.leaf 5 Ax.Mode.shared) (.leaf 6 Ax.Mode.shared))) (.node 12 (.node 11 (.leaf 7 Ax.Mode.shared) (.leaf 11 Ax.Mode.shared)) (.node 13 (.leaf 12 Ax.Mode.shared) (.leaf 13 Ax.Mode.shared)))) (.node 19 (.node 16 (.leaf 15 Ax.Mode.shared) (.node 17 (.leaf 16 Ax.Mode.shared) (.leaf 17 Ax.Mode.shared))) (.node 22 (.node 21 (.leaf 19 Ax.Mode.shared) (.leaf 21 Ax.Mode.shared)) (.node 23 (.leaf 22 Ax.Mode.shared) (.leaf 23 Ax.Mode.shared))))) (.node 35 (.node 28 (.node 25 (.leaf 24 Ax.Mode.shared) (.node 26 (.leaf 25 Ax.Mode.shared) (.leaf 26 Ax.Mode.shared))) (.node 31 (.node 30 (.leaf 28 Ax.Mode.shared) (.leaf 30 Ax.Mode.shared)) (.node 32 (.leaf 31 Ax.Mode.shared) (.leaf 32 Ax.Mode.shared)))) (.node 41 (.node 36 (.leaf 35 Ax.Mode.shared) (.node 40 (.leaf 36 Ax.Mode.shared) (.leaf 40 Ax.Mode.shared))) (.node 45 (.node 42 (.leaf 41 Ax.Mode.shared) (.leaf 42 Ax.Mode.shared)) (.node 46 (.leaf 45 Ax.Mode.shared) (.leaf 46 Ax.Mode.shared)))))) (.node 116 (.node 74 (.node 52 (.node 50 (.leaf 49 Ax.Mode.shared) (.node 51 (.leaf 50 Ax.Mode.shared) (.leaf 51 Ax.Mode.shared))) (.node 69 (.node 53 (.leaf 52 Ax.Mode.shared) (.leaf 53 Ax.Mode.shared)) (.node 71 (.leaf 69 Ax.Mode.shared) (.leaf 71 Ax.Mode.shared)))) (.node 79 (.node 76 (.leaf 74 Ax.Mode.shared) (.node 78 (.leaf 76 Ax.Mode.shared) (.leaf 78 Ax.Mode.move))) (.node 103 (.node 89 (.leaf 79 Ax.Mode.shared) (.leaf 89 Ax.Mode.shared)) (.node 113 (.leaf 103 Ax.Mode.shared) (.leaf 113 Ax.Mode.shared))))) (.node 147 (.node 122 (.node 118 (.leaf 116 Ax.Mode.shared) (.node 120 (.leaf 118 Ax.Mode.shared) (.leaf 120 Ax.Mode.shared))) (.node 137 (.node 132 (.leaf 122 Ax.Mode.shared) (.leaf 132 Ax.Mode.shared)) (.node 144 (.leaf 137 Ax.Mode.shared) (.leaf 144 Ax.Mode.shared)))) (.node 151 (.node 148 (.leaf 147 Ax.Mode.shared) (.node 150 (.leaf 148 Ax.Mode.shared) (.leaf 150 Ax.Mode.shared))) (.node 160 (.node 158 (.leaf 151 Ax.Mode.shared) (.leaf 158 Ax.Mode.shared)) (.node 162 (.leaf 160 Ax.Mode.shared) (.leaf 162 Ax.Mode.shared))))))) (.node 257 (.node 210 (.node 178 (.node 173 (.node 171 (.leaf 170 Ax.Mode.shared) (.node 172 (.leaf 171 Ax.Mode.shared) (.leaf 172 Ax.Mode.shared))) (.node 175 (.node 174 (.leaf 173 Ax.Mode.shared) (.leaf 174 Ax.Mode.shared)) (.node 177 (.leaf 175 Ax.Mode.shared) (.leaf 177 Ax.Mode.shared)))) (.node 184 (.node 181 (.leaf 178 Ax.Mode.shared) (.node 183 (.leaf 181 Ax.Mode.shared) (.leaf 183 Ax.Mode.shared))) (.node 189 (.node 187 (.leaf 184 Ax.Mode.shared) (.leaf 187 Ax.Mode.shared)) (.node 209 (.leaf 189 Ax.Mode.shared) (.leaf 209 Ax.Mode.shared))))) (.node 233 (.node 218 (.node 215 (.leaf 210 Ax.Mode.shared) (.node 217 (.leaf 215 Ax.Mode.shared) (.leaf 217 Ax.Mode.shared))) (.node 222 (.node 219 (.leaf 218 Ax.Mode.shared) (.leaf 219 Ax.Mode.shared)) (.node 225 (.leaf 222 Ax.Mode.shared) (.leaf 225 Ax.Mode.shared)))) (.node 253 (.node 234 (.leaf 233 Ax.Mode.shared) (.node 239 (.leaf 234 Ax.Mode.shared) (.leaf 239 Ax.Mode.shared))) (.node 255 (.node 254 (.leaf 253 Ax.Mode.shared) (.leaf 254 Ax.Mode.shared)) (.node 256 (.leaf 255 Ax.Mode.shared) (.leaf 256 Ax.Mode.shared)))))) (.node 295 (.node 270 (.node 260 (.node 258 (.leaf 257 Ax.Mode.shared) (.node 259 (.leaf 258 Ax.Mode.shared) (.leaf 259 Ax.Mode.shared))) (.node 262 (.node 261 (.leaf 260 Ax.Mode.shared) (.leaf 261 Ax.Mode.shared)) (.node 269 (.leaf 262 Ax.Mode.shared) (.leaf 269 Ax.Mode.shared)))) (.node 273 (.node 271 (.leaf 270 Ax.Mode.shared) (.node 272 (.leaf 271 Ax.Mode.shared) (.leaf 272 Ax.Mode.shared))) (.node 287 (.node 274 (.leaf 273 Ax.Mode.shared) (.leaf 274 Ax.Mode.shared)) (.node 294 (.leaf 287 Ax.Mode.shared) (.leaf 294 Ax.Mode.shared))))) (.node 307 (.node 300 (.node 296 (.leaf 295 Ax.Mode.shared) (.node 299 (.leaf 296 Ax.Mode.shared) (.leaf 299 Ax.Mode.shared))) (.node 302 (.node 301 (.leaf 300 Ax.Mode.shared) (.leaf 301 Ax.Mode.shared)) (.node 303 (.leaf 302 Ax.Mode.shared) (.leaf 303 Ax.Mode.shared)))) (.node 314 (.node 309 (.node 308 (.leaf 307 Ax.Mode.shared) (.leaf 308 Ax.Mode.shared)) (.node 312 (.leaf 309 Ax.Mode.shared) (.leaf 312 Ax.Mode.shared))) (.node 319 (.node 318 (.leaf 314 Ax.Mode.shared) (.leaf 318 Ax.Mode.shared)) (.node 325 (.leaf 319 Ax.Mode.shared) (.leaf 325 Ax.Mode.shared))))))))
def hspecTab:BT (List V->Sg->Option (V × Sg)):=(.node 136 (.node 69 (.node 46 (.leaf 45 (hGrow 36)) (.leaf 46 (hGrow 9))) (.node 125 (.leaf 69 (hSortStr 9)) (.leaf 125 hCopy))) (.node 243 (.node 143 (.leaf 136 (hSortedLab 105 [184] [] 138)) (.leaf 143 (hSortedStr 9 [187,318] [262]))) (.node 244 (.leaf 243 hEscape) (.leaf 244 (hMake 5)))))
noncomputable def ground:Ax.Ground Tryz.prog:={ ty:=tyTab,fn:=fnTab,mode:=modeTab,hspec:=hspecTab,eqs:=eqTab,gl:=glMax,lie:=λt=>Nat.beq t 193 }
noncomputable def sp0:BT (List V->Option V):=(.node 155 (.node 70 (.leaf 56 specRepl) (.leaf 70 specBack)) (.node 266 (.leaf 155 specSplit) (.node 304 (.leaf 266 specIndexByte) (.leaf 304 specCut))))
def q9:List V:=[.str [120],.int .i64 3,.isl true [[.str [115]]] true,.nils,.int .i64 0]
def q10:List (List V):=[q9]
def q11:List V:=[.str [97,46,48],.isl true [[.str [115]]] false,.isl true [[.str [120]]] true,.nils,.isl true q10 false]
def q16:List V:=[.str [121],.int .i64 1,.isl true [[.str [120]]] true,.nils,.int .i64 0]
def q17:List (List V):=[q9,q16]
def q18:List V:=[.str [97,46,49],.isl true [[.str [115]]] false,.isl true [[.str [121]]] true,.nils,.isl true q17 false]
def q23:List V:=[.str [119],.int .i64 4,.isl true [[.str [121]]] true,.nils,.int .i64 0]
def q24:List (List V):=[q23]
def q25:List V:=[.str [98],.isl true [[.str [121]]] true,.isl true [[.str [119]]] true,.nils,.isl true q24 true]
def q26:List (List V):=[q11,q18,q25]
def q34:List V:=[.str [122],.int .i64 1,.isl true [[.str [117]]] true,.nils,.int .i64 0]
def q35:List (List V):=[q9,q16,q34]
def q36:List V:=[.str [97],.isl true [[.str [115]],[.str [117]]] true,.isl true [[.str [120]],[.str [121]]] true,.nils,.isl true q35 true]
def q37:List (List V):=[q36,q25]
def q39:List V:=[.str [97,46,49,95,120],.int .i64 3,.isl true [[.str [115]]] false,.nils,.int .i64 0]
def q43:List V:=[.str [97,46,49,95,121],.int .i64 1,.isl true [[.str [97,46,49,95,120]]] false,.nils,.int .i64 0]
def q46:List V:=[.str [119],.int .i64 4,.isl true [[.str [97,46,49,95,121]]] false,.nils,.int .i64 0]
def q47:List (List V):=[q39,q43,q46]
def q48:List V:=[.str [98],.isl true [[.str [115]]] false,.isl true [[.str [119]]] true,.nils,.isl true q47 false]
def q49:List (List V):=[q11,q48]
def q50:List (List V):=[q48]
def q56:List V:=[.str [122],.int .i64 5,.isl false [[.str [121]]] true,.nils,.int .i64 0]
def q57:List (List V):=[q56]
def q58:List V:=[.str [99],.isl false [[.str [121]]] true,.isl false [[.str [122]]] true,.isl false [[.str [97]]] true,.isl false q57 true]
def q59:List V:=[.str [120],.int .i64 5,.isl false [[.str [115]]] true,.nils,.int .i64 0]
def q60:List (List V):=[q59]
def q61:List V:=[.str [97],.isl false [[.str [115]]] true,.isl false [[.str [120]]] true,.nils,.isl false q60 true]
def q62:List V:=[.str [121],.int .i64 5,.isl false [[.str [120]]] true,.nils,.int .i64 0]
def q63:List (List V):=[q62]
def q64:List V:=[.str [98],.isl false [[.str [120]]] true,.isl false [[.str [121]]] true,.nils,.isl false q63 true]
def q65:List (List V):=[q58,q61,q64]
def q70:List V:=[.str [116],.int .i64 3,.isl true [[.str [97]]] true,.nils,.int .i64 0]
def q73:List V:=[.str [120],.int .i64 4,.isl true [[.str [116]]] true,.nils,.int .i64 0]
def q75:List V:=[.str [121],.int .i64 2,.isl true [[.str [98]]] true,.nils,.int .i64 0]
def q76:List (List V):=[q70,q73,q75]
def q77:List V:=[.str [114],.isl true [[.str [97]],[.str [98]]] true,.isl true [[.str [120]],[.str [121]]] true,.nils,.isl true q76 true]
def q78:List (List V):=[q77]
def q79:List V:=[.str [97],.int .i64 1,.isl true [[.str [120]]] true,.nils,.int .i64 0]
def q80:List (List V):=[q79]
def q81:List V:=[.str [115],.isl true [[.str [120]]] true,.isl true [[.str [97]]] true,.nils,.isl true q80 true]
def q82:List (List V):=[q81,q77]
def q92:List (V × V):=[(.str [99],.isl false [[.str [97]],[.str [98]]] false),(.str [97],.nils),(.str [98],.isl false [[.str [97]]] false)]
def q98:List V:=[.str [97,46,48],.isl true [[.str [115]],[.str [117]]] true,.isl true [[.str [120]]] true,.nils,.isl true q35 true]
def q101:List V:=[.str [97,46,49],.isl true [[.str [115]],[.str [117]]] true,.isl true [[.str [121]]] true,.nils,.isl true q35 true]
def q102:List V:=[.str [97,46,48],.isl true [[.str [115]]] false,.isl true [[.str [120]]] true,.nils,.isl true q17 false]
def q115:List V:=[.str [120],.int .i64 7,.isl false [[.str [97]]] false,.isl false [[.str [113,10]]] false,.int .i64 0]
def q116:List (List V):=[q115]
def q117:List V:=[.str [114],.isl false [[.str [97]],[.str [98]]] false,.isl false [[.str [120]]] false,.nils,.isl false q116 false]
def q118:List (List V):=[q117]
def q119:List V:=[.str [120],.int .i64 3,.isl false [[.str [115]]] false,.nils,.int .i64 0]
def q120:List (List V):=[q119]
def q121:List V:=[.str [97,46,48],.isl false [[.str [115]]] false,.isl false [[.str [120]]] false,.nils,.isl false q120 false]
def q122:List V:=[.str [97,46,49,95,120],.int .i64 3,.isl false [[.str [115]]] false,.nils,.int .i64 0]
def q123:List V:=[.str [97,46,49,95,121],.int .i64 1,.isl false [[.str [97,46,49,95,120]]] false,.nils,.int .i64 0]
def q124:List V:=[.str [119],.int .i64 4,.isl false [[.str [97,46,49,95,121]]] false,.nils,.int .i64 0]
def q125:List (List V):=[q122,q123,q124]
def q126:List V:=[.str [98],.isl false [[.str [115]]] false,.isl false [[.str [119]]] false,.nils,.isl false q125 false]
def q127:List (V × V):=[(.str [97,46,48],.agg q121),(.str [98],.agg q126)]
def q128:List (V × V):=[(.str [120],.str [97,46,48]),(.str [119],.str [98])]
def q134:List (V × V):=[(.agg [.bool true,.str [97,46,48]],.bool true),(.agg [.bool false,.str [115]],.bool true),(.agg [.bool false,.str [120]],.bool true),(.agg [.bool true,.str [98]],.bool true),(.agg [.bool false,.str [119]],.bool true)]
def q135:List V:=[.imp false q134]
def q137:List V:=[.imp false [(.agg [.bool false,.str [115]],.bool true)]]
def q138:List (V × V):=[(.agg [.bool true,.str [97,46,48]],.bool true)]
def q139:List V:=[.imp false q138]
def q141:List V:=[.imp false [(.agg [.bool true,.str [98]],.bool true)]]
def q142:List (V × V):=[(.agg [.bool true,.str [97,46,48]],.ipt false q137),(.agg [.bool false,.str [120]],.ipt false q139),(.agg [.bool true,.str [98]],.ipt false q137),(.agg [.bool false,.str [119]],.ipt false q141)]
def q143:List (V × V):=[(.agg [.bool true,.str [97,46,48]],.bool true),(.agg [.bool true,.str [98]],.bool true)]
def q144:List V:=[.imp false q143]
def q146:List V:=[.imp false [(.agg [.bool false,.str [120]],.bool true)]]
def q148:List V:=[.imp false [(.agg [.bool false,.str [119]],.bool true)]]
def q149:List (V × V):=[(.agg [.bool false,.str [115]],.ipt false q144),(.agg [.bool true,.str [97,46,48]],.ipt false q146),(.agg [.bool true,.str [98]],.ipt false q148)]
def q150:List V:=[.imp false q127,.imp false q128,.ipt false q135,.imp false q142,.imp false q149]
def q158:List V:=[.str [122],.int .i64 5,.isl false [[.str [121]]] false,.nils,.int .i64 0]
def q159:List (List V):=[q158]
def q160:List V:=[.str [99],.isl false [[.str [121]]] false,.isl false [[.str [122]]] false,.isl false [[.str [97]]] false,.isl false q159 false]
def q161:List V:=[.str [120],.int .i64 5,.isl false [[.str [115]]] false,.nils,.int .i64 0]
def q162:List (List V):=[q161]
def q163:List V:=[.str [97],.isl false [[.str [115]]] false,.isl false [[.str [120]]] false,.nils,.isl false q162 false]
def q164:List V:=[.str [121],.int .i64 5,.isl false [[.str [120]]] false,.nils,.int .i64 0]
def q165:List (List V):=[q164]
def q166:List V:=[.str [98],.isl false [[.str [120]]] false,.isl false [[.str [121]]] false,.nils,.isl false q165 false]
def q167:List (V × V):=[(.str [99],.agg q160),(.str [97],.agg q163),(.str [98],.agg q166)]
def q168:List (V × V):=[(.str [122],.str [99]),(.str [120],.str [97]),(.str [121],.str [98])]
def q173:List (V × V):=[(.agg [.bool true,.str [99]],.bool true),(.agg [.bool false,.str [121]],.bool true),(.agg [.bool false,.str [122]],.bool true),(.agg [.bool true,.str [97]],.bool true),(.agg [.bool false,.str [115]],.bool true),(.agg [.bool false,.str [120]],.bool true),(.agg [.bool true,.str [98]],.bool true)]
def q174:List V:=[.imp false q173]
def q176:List V:=[.imp false [(.agg [.bool false,.str [121]],.bool true)]]
def q178:List V:=[.imp false [(.agg [.bool true,.str [99]],.bool true)]]
def q180:List V:=[.imp false [(.agg [.bool true,.str [97]],.bool true)]]
def q181:List (V × V):=[(.agg [.bool true,.str [99]],.ipt false q176),(.agg [.bool false,.str [122]],.ipt false q178),(.agg [.bool true,.str [97]],.ipt false q137),(.agg [.bool false,.str [120]],.ipt false q180),(.agg [.bool true,.str [98]],.ipt false q146),(.agg [.bool false,.str [121]],.ipt false q141)]
def q183:List V:=[.imp false [(.agg [.bool false,.str [122]],.bool true)]]
def q184:List (V × V):=[(.agg [.bool false,.str [121]],.ipt false q178),(.agg [.bool true,.str [99]],.ipt false q183),(.agg [.bool false,.str [115]],.ipt false q180),(.agg [.bool true,.str [97]],.ipt false q146),(.agg [.bool false,.str [120]],.ipt false q141),(.agg [.bool true,.str [98]],.ipt false q176)]
def q185:List V:=[.imp false q167,.imp false q168,.ipt false q174,.imp false q181,.imp false q184]
def q189:List V:=[.ipt false q185]
def q200:List (V × V):=[(.str [97],.bool true),(.str [98],.bool true)]
def q201:List (V × V):=[(.str [97],.imp false []),(.str [98],.imp false [(.str [97],.bool true)]),(.str [99],.imp false q200)]
def q217:List (List V):=[[.bool true,.str [50,10]],[.bool false,.str []]]
def q219:List (List V):=[[.bool false,.str []],[.bool true,.str [122]]]
def q237:List Nat:=[114,117,108,101,32,114,32,123,32,105,110,32,98,44,32,97,59,32,111,117,116,32,120,59,32,35,32,110,111,10,32,120,32,61,32,115,101,108,101,99,116,32,34,113,92,110,34,32,97,59,32,125]
def q238:List V:=[.int .i64 1,.int .i64 0,.str [114,117,108,101]]
def q272:List V:=[.str [120],.int .i64 7,.isl false [[.str [97]]] true,.isl false [[.str [113,10]]] true,.int .i64 0]
def q273:List (List V):=[q272]
def q274:List V:=[.str [114],.isl false [[.str [98]],[.str [97]]] false,.isl false [[.str [120]]] true,.nils,.isl false q273 false]
def q275:List (List V):=[q274]
def t265:List (List V × V):=[([.int .i32 97],.bool true),([.int .i32 46],.bool true),([.int .i32 48],.bool true),([.int .i32 115],.bool true),([.int .i32 120],.bool true),([.int .i32 49],.bool true),([.int .i32 121],.bool true),([.int .i32 98],.bool true),([.int .i32 119],.bool true),([.int .i32 117],.bool true),([.int .i32 122],.bool true),([.int .i32 95],.bool true),([.int .i32 99],.bool true),([.int .i32 114],.bool true),([.int .i32 116],.bool true)]
noncomputable def sp1:=sp0.put 265 (memoSpec t265)
def t230:List (List V × V):=[([.str [97,46,48]],.bool false),([.str [115]],.bool false),([.str [120]],.bool false),([.str [97,46,49]],.bool false),([.str [121]],.bool false),([.str [98]],.bool false),([.str [119]],.bool false),([.str [97]],.bool false),([.str [117]],.bool false),([.str [122]],.bool false),([.str [97,46,49,95,120]],.bool false),([.str [97,46,49,95,121]],.bool false),([.str [99]],.bool false),([.str [114]],.bool false),([.str [116]],.bool false),([.str [98,46,99]],.bool false),([.str []],.bool true)]
noncomputable def sp2:=sp1.put 230 (memoSpec t230)
def t193:List (List V × V):=[([.str [97,46,48]],.bool true),([.str [115]],.bool true),([.str [120]],.bool true),([.str [97,46,49]],.bool true),([.str [121]],.bool true),([.str [98]],.bool true),([.str [119]],.bool true),([.str [97]],.bool true),([.str [117]],.bool true),([.str [122]],.bool true),([.str [97,46,49,95,120]],.bool true),([.str [97,46,49,95,121]],.bool true),([.str [99]],.bool true),([.str [114]],.bool true),([.str [116]],.bool true),([.str [105,110]],.bool false),([.str [97,47,99]],.bool true),([.str [97,47,98,46,99]],.bool true),([.str [97,47,47,98]],.bool false),([.str [114,117,108,101]],.bool false)]
noncomputable def sp3:=sp2.put 193 (memoSpec t193)
def t164:List (List V × V):=[([.str [97,46,48]],.bool false),([.str [115]],.bool false),([.str [120]],.bool false),([.str [97,46,49]],.bool false),([.str [121]],.bool false),([.str [98]],.bool false),([.str [119]],.bool false),([.str [97]],.bool false),([.str [117]],.bool false),([.str [122]],.bool false),([.str [97,46,49,95,120]],.bool false),([.str [97,46,49,95,121]],.bool false),([.str [99]],.bool false),([.str [114]],.bool false),([.str [116]],.bool false)]
noncomputable def sp4:=sp3.put 164 (memoSpec t164)
def t109:List (List V × V):=[([.agg q9],.bool true),([.agg q16],.bool true),([.agg q23],.bool true),([.agg q34],.bool true),([.agg q39],.bool true),([.agg q43],.bool true),([.agg q46],.bool true),([.agg q56],.bool true),([.agg q59],.bool true),([.agg q62],.bool true),([.agg q70],.bool true),([.agg q73],.bool true),([.agg q75],.bool true),([.agg q79],.bool true)]
noncomputable def sp5:=sp4.put 109 (memoSpec t109)
def t167:List (List V × V):=[([.isl true [[.str [115]]] false],.bool false),([.isl true [[.str [120]]] true],.bool false),([.nils],.bool false),([.isl true [[.str [121]]] true],.bool false),([.isl true [[.str [119]]] true],.bool false),([.isl true [[.str [115]],[.str [117]]] true],.bool false),([.isl true [[.str [120]],[.str [121]]] true],.bool false),([.isl false [[.str [121]]] true],.bool false),([.isl false [[.str [122]]] true],.bool false),([.isl false [[.str [97]]] true],.bool false),([.isl false [[.str [115]]] true],.bool false),([.isl false [[.str [120]]] true],.bool false),([.isl true [[.str [97]],[.str [98]]] true],.bool false),([.isl true [[.str [97]]] true],.bool false)]
noncomputable def sp6:=sp5.put 167 (memoSpec t167)
def t65:List (List V × V):=[([.agg q11],.int .i64 0),([.agg q18],.int .i64 0),([.agg q25],.int .i64 0),([.agg q36],.int .i64 0),([.agg q48],.int .i64 0),([.agg q58],.int .i64 0),([.agg q61],.int .i64 0),([.agg q64],.int .i64 0),([.agg q77],.int .i64 0),([.agg q81],.int .i64 0)]
noncomputable def sp7:=sp6.put 65 (memoSpec t65)
def t47:List (List V × V):=[([.nils],.tup [.int .i64 0,.str []]),([.isl true q26 false],.tup [.int .i64 0,.str []]),([.isl true q37 true],.tup [.int .i64 0,.str []]),([.isl true q49 false],.tup [.int .i64 0,.str []]),([.isl true q50 false],.tup [.int .i64 0,.str []]),([.isl true q65 true],.tup [.int .i64 0,.str []]),([.isl true q78 true],.tup [.int .i64 0,.str []]),([.isl true q82 true],.tup [.int .i64 0,.str []])]
noncomputable def sp8:=sp7.put 47 (memoSpec t47)
def t68:List (List V × V):=[([.nils],.imp false []),([.isl true q26 false],.imp false [(.str [97,46,48],.nils),(.str [97,46,49],.nils),(.str [98],.isl false [[.str [97,46,49]]] false)]),([.isl true q37 true],.imp false [(.str [97],.nils),(.str [98],.isl false [[.str [97]]] false)]),([.isl true q49 false],.imp false [(.str [97,46,48],.nils),(.str [98],.nils)]),([.isl true q50 false],.imp false [(.str [98],.nils)]),([.isl true q65 true],.imp false q92),([.isl true q78 true],.imp false [(.str [114],.nils)]),([.isl true q82 true],.imp false [(.str [115],.isl false [[.str [114]]] false),(.str [114],.isl false [[.str [115]]] false)])]
noncomputable def sp9:=sp8.put 68 (memoSpec t68)
def t48:List (List V × V):=[([.nils],.nils),([.isl true q26 false],.nils),([.isl true q37 true],.nils),([.isl true q49 false],.nils),([.isl true q50 false],.nils),([.isl true q65 true],.nils),([.isl true q78 true],.nils),([.isl true q82 true],.isl false [[.str [114]],[.str [115]]] false)]
noncomputable def sp10:=sp9.put 48 (memoSpec t48)
def t20:List (List V × V):=[([.nils],.tup [.int .i64 0,.str []]),([.isl true q26 false],.tup [.int .i64 0,.str []]),([.isl true q37 true],.tup [.int .i64 0,.str []]),([.isl true q49 false],.tup [.int .i64 0,.str []]),([.isl true q50 false],.tup [.int .i64 0,.str []]),([.isl true q65 true],.tup [.int .i64 0,.str []]),([.isl true q78 true],.tup [.int .i64 0,.str []]),([.isl true q82 true],.tup [.int .i64 3,.str [114]])]
noncomputable def sp11:=sp10.put 20 (memoSpec t20)
def t119:List (List V × V):=[([.agg q11],.agg q121),([.agg q48],.agg q126),([.agg q58],.agg q160),([.agg q61],.agg q163),([.agg q64],.agg q166)]
noncomputable def sp12:=sp11.put 119 (memoSpec t119)
def t73:List (List V × V):=[([.isl true q49 false],.ipt false q150),([.isl true q50 false],.ipt false [.imp false [(.str [98],.agg q126)],.imp false [(.str [119],.str [98])],.ipt false [.imp false [(.agg [.bool true,.str [98]],.bool true),(.agg [.bool false,.str [115]],.bool true),(.agg [.bool false,.str [119]],.bool true)]],.imp false [(.agg [.bool true,.str [98]],.ipt false q137),(.agg [.bool false,.str [119]],.ipt false q141)],.imp false [(.agg [.bool false,.str [115]],.ipt false q141),(.agg [.bool true,.str [98]],.ipt false q148)]]),([.isl true q65 true],.ipt false q185)]
noncomputable def sp13:=sp12.put 73 (memoSpec t73)
def t124:List (List V × V):=[([.isl true q50 false],.imp false [(.str [98],.nils)]),([.isl true q65 true],.imp false q92)]
noncomputable def sp14:=sp13.put 124 (memoSpec t124)
def t84:List (List V × V):=[([.isl true q50 false],.isl false [[.str [98]]] false),([.isl true q65 true],.isl false [[.str [97]],[.str [98]],[.str [99]]] false)]
noncomputable def sp15:=sp14.put 84 (memoSpec t84)
def t85:List (List V × V):=[([.isl true q65 true],.isl false [[.isl false [[.str [97]]] false],[.isl false [[.str [98]]] false],[.isl false [[.str [99]]] false]] false)]
noncomputable def sp16:=sp15.put 85 (memoSpec t85)
def t75:List (List V × V):=[([.isl true q50 false],.imp false [(.str [98],.imp false [])]),([.isl true q65 true],.imp false q201)]
noncomputable def sp17:=sp16.put 75 (memoSpec t75)
def t77:List (List V × V):=[([.isl true q65 true,.imp false q201,.agg q58,.str [97]],.bool true)]
noncomputable def sp18:=sp17.put 77 (memoSpec t77)
def t96:List (List V × V):=[([.isl true q65 true,.str [99],.str [97]],.bool true)]
noncomputable def sp19:=sp18.put 96 (memoSpec t96)
def t101:List (List V × V):=[([.agg q77,.isl true [[.bool true,.str [113,10,112]],[.bool true,.str []]] true],.isl false q217 false),([.agg q77,.isl true q219 false],.isl false q219 false),([.agg q77,.isl true [[.bool true,.str [50,10,49]],[.bool false,.str []]] false],.isl false q217 false)]
noncomputable def sp20:=sp19.put 101 (memoSpec t101)
def t104:List (List V × V):=[([.isl true q78 true,.ipt true [.imp true [(.str [97],.str [50,10,49])]],.isl true [[.str [120]],[.str [97]],[.str [121]]] true],.isl false [[.bool true,.str [50,10]],[.bool true,.str [50,10,49]],[.bool false,.str []]] true)]
noncomputable def sp21:=sp20.put 104 (memoSpec t104)
def t196:List (List V × V):=[([.str [97,32,34,92,120,52,49,34,32,59]],.tup [.isl false [[.int .i64 1,.int .i64 0,.str [97]],[.int .i64 2,.int .i64 2,.str [65]],[.int .i64 3,.int .i64 9,.str [59]],[.int .i64 4,.int .i64 10,.str []]] false,.agg [.int .i64 0,.int .i64 0]]),([.str q237],.tup [.isl false [q238,[.int .i64 1,.int .i64 5,.str [114]],[.int .i64 3,.int .i64 7,.str [123]],[.int .i64 1,.int .i64 9,.str [105,110]],[.int .i64 1,.int .i64 12,.str [98]],[.int .i64 3,.int .i64 13,.str [44]],[.int .i64 1,.int .i64 15,.str [97]],[.int .i64 3,.int .i64 16,.str [59]],[.int .i64 1,.int .i64 18,.str [111,117,116]],[.int .i64 1,.int .i64 22,.str [120]],[.int .i64 3,.int .i64 23,.str [59]],[.int .i64 1,.int .i64 31,.str [120]],[.int .i64 3,.int .i64 33,.str [61]],[.int .i64 1,.int .i64 35,.str [115,101,108,101,99,116]],[.int .i64 2,.int .i64 42,.str [113,10]],[.int .i64 1,.int .i64 48,.str [97]],[.int .i64 3,.int .i64 49,.str [59]],[.int .i64 3,.int .i64 51,.str [125]],[.int .i64 4,.int .i64 52,.str []]] false,.agg [.int .i64 0,.int .i64 0]]),([.str [114,117,108,101,32,105,110,32,123]],.tup [.isl false [q238,[.int .i64 1,.int .i64 5,.str [105,110]],[.int .i64 3,.int .i64 8,.str [123]],[.int .i64 4,.int .i64 9,.str []]] false,.agg [.int .i64 0,.int .i64 0]])]
noncomputable def sp22:=sp21.put 196 (memoSpec t196)
def t197:List (List V × V):=[([.str q237],.tup [.isl false q275 false,.agg [.int .i64 0,.int .i64 0]]),([.str [114,117,108,101,32,105,110,32,123]],.tup [.nils,.agg [.int .i64 1,.int .i64 5]])]
noncomputable def sp23:=sp22.put 197 (memoSpec t197)
def t200:List (List V × V):=[([.isl false q275 false],.str [114,117,108,101,32,114,32,123,10,32,32,105,110,32,97,44,32,98,59,10,32,32,111,117,116,32,120,59,10,32,32,120,32,61,32,115,101,108,101,99,116,32,34,113,92,110,34,32,97,59,10,125,10])]
noncomputable def sp24:=sp23.put 200 (memoSpec t200)
def t235:List (List V × V):=[([],.bool true)]
noncomputable def sp25:=sp24.put 235 (memoSpec t235)
def t152:List (List V × V):=[([],.bool true)]
noncomputable def sp26:=sp25.put 152 (memoSpec t152)
def t55:List (List V × V):=[([],.bool true)]
noncomputable def sp27:=sp26.put 55 (memoSpec t55)
def t140:List (List V × V):=[([.ipt false q150,.int .i64 (-1),.fn 93 [.ipt false q150] [],.isl true [[.bool false,.str [119]]] false],.isl false [[.bool false,.str [115]],[.bool false,.str [119]],[.bool true,.str [98]]] false),([.ipt false q185,.int .i64 1,.fn 93 q189 [],.isl false [[.bool false,.str [122]]] true],.isl false [[.bool false,.str [122]],[.bool true,.str [99]]] false),([.ipt false q185,.int .i64 (-1),.fn 141 q189 [],.isl false [[.bool false,.str [121]]] true],.isl false [[.bool false,.str [121]],[.bool false,.str [122]],[.bool true,.str [99]]] false),([.ipt false q185,.int .i64 (-1),.fn 93 q189 [],.isl true [[.bool false,.str [121]]] false],.isl false [[.bool false,.str [115]],[.bool false,.str [120]],[.bool false,.str [121]],[.bool true,.str [97]],[.bool true,.str [98]]] false),([.ipt false q185,.int .i64 (-1),.fn 93 q189 [],.isl false [[.bool false,.str [122]]] true],.isl false [[.bool false,.str [115]],[.bool false,.str [120]],[.bool false,.str [121]],[.bool false,.str [122]],[.bool true,.str [97]],[.bool true,.str [98]],[.bool true,.str [99]]] false),([.ipt false q185,.int .i64 (-1),.fn 141 q189 [],.isl false [[.bool false,.str [120]]] true],.isl false [[.bool false,.str [120]],[.bool false,.str [121]],[.bool false,.str [122]],[.bool true,.str [98]],[.bool true,.str [99]]] false)]
noncomputable def sp28:=sp27.put 140 (memoSpec t140)
def t129:List (List V × V):=[([.ipt false q185,.isl true [[.bool false,.str [120]]] true],.imp false [(.agg [.bool false,.str [120]],.int .i64 0),(.agg [.bool true,.str [98]],.int .i64 1),(.agg [.bool false,.str [121]],.int .i64 2),(.agg [.bool true,.str [99]],.int .i64 3),(.agg [.bool false,.str [122]],.int .i64 4)])]
noncomputable def sp29:=sp28.put 129 (memoSpec t129)
def t54:List (List V × V):=[([],.bool true)]
noncomputable def sp30:=sp29.put 54 (memoSpec t54)
def t37:List (List V × V):=[([.agg q36],.isl false [[.int .i64 2]] false),([.agg q98],.isl false [[.int .i64 1],[.int .i64 2]] false),([.agg q101],.isl false [[.int .i64 2]] false),([.agg q102],.isl false [[.int .i64 1]] false),([.agg q18],.nils),([.agg q77],.nils)]
noncomputable def sp31:=sp30.put 37 (memoSpec t37)
def t38:List (List V × V):=[([.agg q36],.isl false [[.str [115]]] false),([.agg q98],.isl false [[.str [115]]] false),([.agg q101],.isl false [[.str [115]]] false),([.agg q102],.isl false [[.str [115]]] false),([.agg q18],.isl false [[.str [115]]] false),([.agg q77],.isl false [[.str [97]],[.str [98]]] false)]
noncomputable def sp32:=sp31.put 38 (memoSpec t38)
def t14:List (List V × V):=[([.isl true [[.str [97],.isl true [[.str [115]]] false,.isl true [[.str [120]],[.str [121]]] true,.nils,.isl true q17 false],q25] false,.isl true q37 true],.bool false),([.isl true q50 false,.isl true q49 false],.bool false),([.isl true q50 false,.isl true q50 false],.bool true),([.isl false q118 false,.isl false q118 false],.bool true)]
noncomputable def sp33:=sp32.put 14 (memoSpec t14)
def t72:List (List V × V):=[([.ipt false q150,.isl true [[.str [119]]] true],.isl false [[.str [98]]] false),([.ipt false q185,.isl false [[.str [121]]] true],.isl false [[.str [97]],[.str [98]]] false)]
noncomputable def sp34:=sp33.put 72 (memoSpec t72)
def t8:List (List V × V):=[([],.bool true)]
end Go.Proofs.YtjcmjanmooabeaaGreatDoor
end
