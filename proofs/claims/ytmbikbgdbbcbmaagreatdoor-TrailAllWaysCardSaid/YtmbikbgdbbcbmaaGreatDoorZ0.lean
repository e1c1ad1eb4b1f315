/- Part 0 of the proof. -/
import Derived.Test.YtmbikbgdbbcbmaaGreatDoorY
import Derived.Calls
import Derived.Below
import Derived.MapKept
import Derived.Laws.CopyRow
import Derived.Laws.StructEq
import Derived.Laws.Cells
import Derived.Laws.Strings
import Derived.Laws.Strings2
import Derived.Laws.Slices
set_option maxHeartbeats 8000000
set_option linter.unusedVariables false
open Go.Result renaming andThen_ok→ν
open Go renaming run_underlying→ξ,Value→ο,Operand→χ,World→Γ,MapEntry→ad,Program→ar,Oper→cd,IntKind→fz
open Go.Sem renaming run_bind→υ,run_pure→ψ,run_ite→gf
open Nat renaming ne_of_lt→aw,beq→ca,ble→gd,blt→i5,ne_of_beq_eq_false→n8,pos_of_ne_zero→ro
open Go.Op renaming equalIn→cX
open UInt8 renaming toNat→c7
open Array renaming replicate→dC,toList_setIfInBounds→ke,getElem?_eq_none→n9
open Go.Builtin renaming nextslicecap→dT,append_→gc,lenOf→qy
open BitVec renaming ofInt→eQ
open True renaming intro→gS
open List renaming mem_of_mem_drop→mf
open Go.ByteArray renaming toList_eq→mn
open Go.Instr renaming sureAddr→ms
open Go.Question renaming appendCap→oi
open List (getElem?_take)
section
namespace Go.Ax
open Go
inductive V where
 |bool (b:Bool) | int (k:fz) (n:Int) | str (s:List Nat)
 |fV | aG | cA | rH | rT
 |bV (g:Bool) (xs:List (List V)) (full:Bool)
 |cR (g:Bool) (cs:List V)
 |imp (g:Bool) (es:List (V × V))
 |ref (b off:Nat)
 |sl (b off len:Nat) (cap:Option Nat)
 |mp (b:Nat)
 |fn (f:Nat) (first cap:List V)
 |agg (cs:List V) | fR (vs:List V)
 |A8 (t:Nat) (v:V)
 |undef
 deriving Inhabited
inductive O where
 |dead
 |cells (t:Nat) (cs:List V) (exact:Bool)
 |map (es:List (V × V))
 |JK (s:List Nat) (pos:Nat)
 |tF (left:List (V × V)) (cur:Option (V × V))
 deriving Inhabited
inductive Kd where
 |bool | int (k:fz) | str | ptr (e:Nat) | sl (e:Nat) | arr (n e:Nat) | map (k e:Nat)
 |jL (fs:List (Nat × Nat)) | func | A8 | other
 deriving Inhabited
structure Ty where
 kd:Kd
 size:Nat
 bytes:Nat
 zero:V
 deriving Inhabited
structure Fn where
 code:Code
 ntmps:Nat
 results:List ResultVar
 deriving Inhabited
inductive FT where
 |leaf
 |node (v:V) (l r:FT)
 deriving Inhabited
def FT.get:FT->Nat->V
 | .leaf,_=>.undef
 | .node v l r,t=>match ca t 0 with
  |true=>v
  |false=>match ca (Nat.mod t 2) 1 with
   |true=>l.get (Nat.div t 2)
   |false=>r.get (Nat.sub (Nat.div t 2) 1)
def FT.put(v:V):Nat->FT->Nat->FT
 |0,f,_=>f
 |k+1,.leaf,t=>match ca t 0 with
  |true=>.node v .leaf .leaf
  |false=>match ca (Nat.mod t 2) 1 with
   |true=>.node .undef (FT.put v k .leaf (Nat.div t 2)) .leaf
   |false=>.node .undef .leaf (FT.put v k .leaf (Nat.sub (Nat.div t 2) 1))
 |k+1,.node u l r,t=>match ca t 0 with
  |true=>.node v l r
  |false=>match ca (Nat.mod t 2) 1 with
   |true=>.node u (FT.put v k l (Nat.div t 2)) r
   |false=>.node u l (FT.put v k r (Nat.sub (Nat.div t 2) 1))
structure Fr where
 n:Nat
 f:FT
 deriving Inhabited
def Fr.get(fr:Fr)(t:Nat):Option V:=match i5 t fr.n with
 |true=>some (fr.f.get t)
 |false=>none
def Fr.put(fr:Fr)(t:Nat)(v:V):Fr:=match i5 t fr.n with
 |true=>⟨fr.n,FT.put v (t+1) fr.f t⟩
 |false=>fr
def Fr.fill(fr:Fr)(i:Nat):List V->Fr
 | []=>fr
 |v::r=>(fr.put i v).fill (i+1) r
def Fr.init(n:Nat)(args:List V):Option Fr:=match gd args.length n with
 |true=>some (Fr.fill ⟨n,.leaf⟩ 0 args)
 |false=>none
abbrev Sg:=List O
inductive Mode where
 |eW | move | shared
 deriving Inhabited
structure Env where
 ty:Nat->Option Ty
 fn:Nat->Option Fn
 mode:Nat->Mode
 spec:Nat->Option (List V->Option V)
 hspec:Nat->Option (List V->Sg->Option (V × Sg))
 eqs:Nat->Option (List Kd)
 gl:Nat->Option (Obj->Prop)
 Ey:Nat->Bool
def no{α:Type}(_:String):Option α:=none
def lo:fz->Int
 | .i8=>-128 | .i16=>-32768 | .i32=>-2147483648 | .i64=>-9223372036854775808 | _=>0
def hi:fz->Int
 | .i8=>127 | .i16=>32767 | .i32=>2147483647 | .i64=>9223372036854775807
 | .u8=>255 | .u16=>65535 | .u32=>4294967295 | .u64=>18446744073709551615
def hiN:fz->Nat
 | .i8=>127 | .i16=>32767 | .i32=>2147483647 | .i64=>9223372036854775807
 | .u8=>255 | .u16=>65535 | .u32=>4294967295 | .u64=>18446744073709551615
def loN:fz->Nat
 | .i8=>128 | .i16=>32768 | .i32=>2147483648 | .i64=>9223372036854775808 | _=>0
def wr(k:fz)(n:Int):Int:=match n with
 | .ofNat m=>match gd m (hiN k) with
  |true=>.ofNat m
  |false=>k.wrap n
 | .negSucc m=>match i5 m (loN k) with
  |true=>.negSucc m
  |false=>k.wrap n
theorem Aw(k:fz)(n:Int):wr k n=if decide (lo k<=n)&&decide (n<=hi k) then n else k.wrap n:=by
 cases n with
 |ofNat m=>
  simp only[wr];cases h:gd m (hiN k) with
  |true=>
   rw[Nat.ble_eq]at h;rw[az];simp only[ak,af];cases k <;> simp only[lo,hi,hiN]at h ⊢ <;> constructor <;> first | omega | (have:(0:Int)<=Int.ofNat m:=Int.natCast_nonneg m;have e:Int.ofNat m=(m:Int):=rfl;omega)
  |false=>
   have h:¬ m<=hiN k:=λg=>by rw[<- Nat.ble_eq,h]at g;cases g
   rw[an];simp only[ak,af];rintro⟨_,g⟩;have e:Int.ofNat m=(m:Int):=rfl;cases k <;> simp only[hi,hiN]at h g <;> omega
 |negSucc m=>
  simp only[wr];cases h:i5 m (loN k) with
  |true=>
   rw[oh]at h;rw[az];simp only[ak,af];cases k <;> simp only[lo,hi,loN]at h ⊢ <;> constructor <;> omega
  |false=>
   have h:¬ m<loN k:=λg=>by rw[<- oh,h]at g;cases g
   rw[an];simp only[ak,af];rintro⟨g,_⟩;cases k <;> simp only[lo,loN]at h g <;> omega
def Yh:Int->Int->Bool
 | .ofNat a,.ofNat b=>ca a b
 | .negSucc a,.negSucc b=>ca a b
 |_,_=>false
def leI:Int->Int->Bool
 | .ofNat a,.ofNat b=>gd a b
 | .negSucc a,.negSucc b=>gd b a
 | .negSucc _,.ofNat _=>true
 | .ofNat _,.negSucc _=>false
def ltI:Int->Int->Bool
 | .ofNat a,.ofNat b=>i5 a b
 | .negSucc a,.negSucc b=>i5 b a
 | .negSucc _,.ofNat _=>true
 | .ofNat _,.negSucc _=>false
def Ld:Int->Int->Int
 | .ofNat a,.ofNat b=>.ofNat (Nat.add a b)
 |a,b=>a+b
def SL:Int->Int->Int
 | .ofNat a,.ofNat b=>match gd b a with
  |true=>.ofNat (Nat.sub a b)
  |false=>.ofNat a - .ofNat b
 |a,b=>a-b
theorem Hi(a b:Int):Yh a b=decide (a=b):=by
 cases a <;> cases b <;> simp only[Yh] <;> rw[ec] <;> simp <;> omega
theorem QV(a b:Int):leI a b=decide (a<=b):=by
 cases a <;> cases b <;> simp only[leI] <;> rw[ec] <;> simp <;> omega
theorem jH(a b:Int):ltI a b=decide (a<b):=by
 cases a <;> cases b <;> simp only[ltI] <;> rw[ec] <;> simp <;> omega
theorem HA(a b:Int):Ld a b=a+b:=by
 cases a <;> cases b <;> rfl
theorem Gx(a b:Int):SL a b=a-b:=by
 cases a <;> cases b <;> simp only[SL];split
 ·rename_i h;rw[Nat.ble_eq]at h;show ((Nat.sub _ _:Nat):Int)=_;have e1:∀m:Nat,Int.ofNat m=(m:Int):=λ_=>rfl;rw[e1,e1,Nat.sub_eq,Int.ofNat_sub h]
 ·rfl
def bytes(s:ByteArray):List Nat:=s.data.toList.map c7
def sP(s:List Nat):ByteArray:=⟨(s.map UInt8.ofNat).toArray⟩
def slt:List Nat->List Nat->Bool
 |_,[]=>false
 | [],_::_=>true
 |a::x,b::y=>match i5 a b with
  |true=>true
  |false=>match ca a b with
   |true=>slt x y
   |false=>false
theorem yY(a b:Nat)(x y:List Nat):slt (a::x) (b::y)=(decide (a<b)||(decide (a=b)&&slt x y)):=by
 simp only[slt];cases h:i5 a b with
 |true=>rw[oh]at h;simp[h]
 |false=>
  have g:¬ a<b:=λg=>by rw[<- oh,h]at g;cases g
  cases h2:ca a b with
  |true=>have:=jb h2;simp[this]
  |false=>have:=n8 h2;simp[this,g]
def seq:List Nat->List Nat->Bool
 | [],[]=>true
 |a::x,b::y=>match ca a b with
  |true=>seq x y
  |false=>false
 |_,_=>false
theorem C5(a b:Nat)(x y:List Nat):seq (a::x) (b::y)=(decide (a=b)&&seq x y):=by
 simp only[seq];cases h2:ca a b with
 |true=>have:=jb h2;simp[this]
 |false=>have:=n8 h2;simp[this]
def V.cells:V->List V
 | .agg cs=>cs
 |v=>[v]
def V.aZ:V->Bool
 | .agg _ | .fR _ | .undef=>false
 |_=>true
def bI:ο->Option V
 | .bool b=>some (.bool b)
 | .int k n=>some (.int k n)
 | .string s=>some (.str (bytes s))
 | .pointer none=>some .fV
 | .slice none 0 0=>some .aG
 | .map none=>some .cA
 | .nilFunc=>some .rH
 | .nilIface=>some .rT
 |_=>none
def ofValues:List ο->Option (List V)
 | []=>some []
 |x::r=>match bI x,ofValues r with
  |some v,some l=>some (v::l)
  |_,_=>none
def ofValue:ο->Option V
 | .agg cs=>match ofValues cs.toList with
  |some l=>some (.agg l)
  |none=>none
 |v=>bI v
def cI(g:Bool):V->Bool
 | .bV h _ _ | .cR h _ | .imp h _=>g || !h
 | .bool _ | .int .. | .str _ | .fV | .aG | .cA | .rH | .rT=>true
 | .fn _ [] []=>true
 |_=>false
def plainCell:V->Bool
 | .bool _ | .int .. | .str _=>true
 |_=>false
def rows(sz:Nat):Nat->List V->List (List V)
 |0,_=>[]
 |n+1,cs=>cs.take sz::rows sz n (cs.drop sz)
def aW{α β:Type}(f:α->Option β):List α->Option (List β)
 | []=>some []
 |x::r=>match f x with
  |some y=>match aW f r with
   |some l=>some (y::l)
   |none=>none
  |none=>none
def bA(Z:Sg)(ty:Nat->Option Ty)(g:Bool):Nat->V->Option V
 |0,_=>no "snap: fuel"
 |n+1,v=>
  let rec1 (v:V):Option V:=match bA Z ty g n v with
   |some v=>if cI g v then some v else no "snap: borrowed"
   |none=>none
  match v with
  | .ref b off=>match Z[b]? with
   |some (.cells _ cs _)=>match aW rec1 (cs.drop off) with
    |some l=>some (.cR g l)
    |none=>none
   |_=>no "snap: dead ref"
  | .sl b off len cap=>match Z[b]? with
   |some (.cells t cs ex)=>match ty t with
    |some i=>if off+len*i.size<=cs.length then match aW rec1 ((cs.drop off).take (len*i.size)) with
     |some l=>some (.bV g (rows i.size len l) (match cap with | some k=>k==len | none=>ex&&decide (0<i.size)&&(off+len*i.size==cs.length)))
     |none=>none
     else no "snap: short"
    |none=>no "snap: type"
   |_=>no "snap: dead sl"
  | .mp b=>match Z[b]? with
   |some (.map es)=>match aW (λ(e:V × V)=>if e.1.cells.all plainCell then (match e.2 with
      | .agg cs=>match aW rec1 cs with
       |some cs=>some (e.1,V.agg cs)
       |none=>none
      |v=>match rec1 v with
       |some v=>some (e.1,v)
       |none=>none) else none) es with
    |some l=>some (.imp g l)
    |none=>none
   |_=>no "snap: dead map"
  | .fn f [] []=>some (.fn f [] [])
  | .fn ..=>no "snap: a closure in memory"
  | .agg _ | .fR _ | .undef | .A8 ..=>no "snap: odd cell"
  |v=>some v
def dN:Nat:=12
def aR(Z:Sg)(ty:Nat->Option Ty)(g:Bool):V->Option V
 | .fn f a b=>match aW one a,aW one b with
  |some a,some b=>some (.fn f a b)
  |_,_=>none
 | .agg cs=>match aW one cs with
  |some l=>some (.agg l)
  |none=>none
 | .A8 t v=>match one v with
  |some v=>some (.A8 t v)
  |none=>none
 |v=>one v
where
 one (v:V):Option V:=match bA Z ty g dN v with
  |some v=>if cI g v then some v else no "snap: borrowed"
  |none=>none
def cQ(Z:Sg)(ty:Nat->Option Ty)(g:Bool):V->Option V
 | .fR vs=>match aW (aR Z ty g) vs with
  |some l=>some (.fR l)
  |none=>none
 |v=>aR Z ty g v
def gT(Z:Sg):Nat->V->List Nat
 |0,_=>[]
 |n+1,v=>match v with
  | .ref b _ | .sl b _ _ _=>b::match Z[b]? with
   |some (.cells _ cs _)=>cs.flatMap (gT Z n)
   |_=>[]
  | .mp b=>b::match Z[b]? with
   |some (.map es)=>es.flatMap λe=>e.2.cells.flatMap (gT Z n)
   |_=>[]
  |_=>[]
def nD(Z:Sg):V->List Nat
 | .fn _ a b=>a.flatMap (gT Z dN)++b.flatMap (gT Z dN)
 | .agg cs=>cs.flatMap (gT Z dN)
 | .A8 _ v=>gT Z dN v
 |v=>gT Z dN v
def kill(Z:Sg)(l:List Nat):Sg:=l.foldl (λZ b=>Z.set b .dead) Z
def isAgg:Kd->Bool
 | .jL _ | .arr ..=>true
 |_=>false
def loadAt(E:Env)(Z:Sg)(t:Nat)(a:V):Option V:=
 match E.ty t with
 |none=>no "load: type"
 |some i=>
  match a with
  | .ref b off=>match Z[b]? with
   |some (.cells _ cs _)=>
    if isAgg i.kd then (if off+i.size<=cs.length then some (.agg ((cs.drop off).take i.size)) else no "load: short")
    else cs[off]?
   |_=>no "load: dead"
  | .cR _ cs=>
   if isAgg i.kd then (if i.size<=cs.length then some (.agg (cs.take i.size)) else no "load: short")
   else cs.head?
  |_=>no "load: no address"
def setCells(cs:List V)(off:Nat)(vs:List V):List V:=cs.take off++vs++cs.drop (off+vs.length)
def storeAt(E:Env)(Z:Sg)(t:Nat)(a v:V):Option Sg:=
 match E.ty t,a with
 |some i,.ref b off=>match Z[b]? with
  |some (.cells u cs ex)=>
   if v.cells.length==i.size&&v.cells.all V.aZ&&decide (off+i.size<=cs.length) then some (Z.set b (.cells u (setCells cs off v.cells) ex))
   else no "store: form"
  |_=>no "store: dead"
 |_,_=>no "store: no address"
def fill(place:Nat->Option (Nat × Nat))(cells:List V):List (Nat × V)->Option (List V)
 | []=>some cells
 |(i,v)::rest=>match place i with
  |none=>none
  |some (off,size)=>
   if decide (v.cells.length≠size)||decide (off+v.cells.length > cells.length) || !v.cells.all V.aZ then none
   else fill place (setCells cells off v.cells) rest
def placeOf(E:Env)(fs:List (Nat × Nat))(j:Nat):Option (Nat × Nat):=
 match fs[j]? with
 |some (off,ft)=>match E.ty ft with
  |some i=>some (off,i.size)
  |none=>none
 |none=>none
def gG(n:Nat)(z:List V):List V:=match n with
 |0=>[]
 |n+1=>z++gG n z
def eqs:List Kd->List V->List V->Option Bool
 | [],[],[]=>some true
 | .bool::sh,.bool x::a,.bool y::b=>match eqs sh a b with
  |some q=>some ((x==y)&&q)
  |none=>none
 | .int k::sh,.int k1 x::a,.int k2 y::b=>if k1=k/\k2=k then match eqs sh a b with
  |some q=>some (decide (x=y)&&q)
  |none=>none
  else none
 | .str::sh,.str x::a,.str y::b=>match eqs sh a b with
  |some q=>some (seq x y&&q)
  |none=>none
 |_,_,_=>none
def dG(E:Env)(t:Nat)(x y:V):Option Bool:=
 match E.ty t with
 |some { kd:=.str,.. }=>match x,y with
  | .str a,.str b=>some (seq a b)
  |_,_=>none
 |some { kd:=.int _,.. }=>match x,y with
  | .int k a,.int k' b=>if k=k' then some (decide (a=b)) else none
  |_,_=>none
 |some { kd:=.jL _,.. }=>match E.eqs t,x,y with
  |some sh,.agg a,.agg b=>eqs sh a b
  |_,_,_=>none
 |_=>none
def jA(eq:V->V->Option Bool)(k:V):List (V × V)->Option (Option V)
 | []=>some none
 |(k',v)::r=>match eq k k' with
  |some true=>some (some v)
  |some false=>jA eq k r
  |none=>none
def kX(eq:V->V->Option Bool)(k v:V):List (V × V)->Option (List (V × V))
 | []=>some [(k,v)]
 |(k',v')::r=>match eq k k' with
  |some true=>some ((k,v)::r)
  |some false=>match kX eq k v r with
   |some r=>some ((k',v')::r)
   |none=>none
  |none=>none
def mM(E:Env)(t:Nat)(xL:Bool)(x y:V):Option Bool:=
 match E.ty t with
 |none=>none
 |some i=>
  match i.kd,x,y with
  | .bool,.bool a,.bool b=>some (a==b)
  | .ptr _,.fV,.fV=>some true
  | .ptr _,.fV,.ref .. | .ptr _,.fV,.cR .. | .ptr _,.ref ..,.fV | .ptr _,.cR ..,.fV=>some false
  | .ptr e,.ref b o,.ref b' o'=>match E.ty e with
   |some ei=>if b=b'/\¬ ei.size=0 then some (decide (o=o')) else none
   |none=>none
  | .sl _,.aG,.aG=>some true
  | .sl _,.aG,.bV .. | .sl _,.aG,.sl .. | .sl _,.bV ..,.aG | .sl _,.sl ..,.aG=>some false
  | .map ..,.cA,.cA=>some true
  | .map ..,.cA,.imp .. | .map ..,.cA,.mp .. | .map ..,.imp ..,.cA | .map ..,.mp ..,.cA=>some false
  | .func,.rH,.rH=>some true
  | .func,.rH,.fn .. | .func,.fn ..,.rH=>some false
  | .A8,.rT,.rT=>if xL then some true else none
  | .A8,.rT,.A8 .. | .A8,.A8 ..,.rT=>some false
  | .jL _,.agg a,.agg b=>match E.eqs t with
   |some sh=>eqs sh a b
   |none=>none
  |_,_,_=>none
def arith(op:BinOp)(k:fz)(a b:Int):Option V:=
 match op with
 | .add=>some (.int k (wr k (Ld a b)))
 | .sub=>some (.int k (wr k (SL a b)))
 | .mul=>some (.int k (wr k (a*b)))
 | .quo=>match Yh b 0 with
  |true=>none
  |false=>some (.int k (wr k (a.tdiv b)))
 | .rem=>match Yh b 0 with
  |true=>none
  |false=>some (.int k (a.tmod b))
 | .and=>some (.int k (k.wrap (eQ k.bits a &&& eQ k.bits b).toNat))
 | .or=>some (.int k (k.wrap (eQ k.bits a ||| eQ k.bits b).toNat))
 | .xor=>some (.int k (k.wrap (eQ k.bits a ^^^ eQ k.bits b).toNat))
 | .andNot=>some (.int k (k.wrap (eQ k.bits a &&& ~~~ eQ k.bits b).toNat))
 | .eql=>some (.bool (Yh a b))
 | .neq=>some (.bool (!Yh a b))
 | .lss=>some (.bool (ltI a b))
 | .leq=>some (.bool (leI a b))
 | .gtr=>some (.bool (ltI b a))
 | .geq=>some (.bool (leI b a))
 |_=>none
theorem eT(op:BinOp)(k:fz)(a b:Int):arith op k a b=(match op with
 | .add=>some (.int k (wr k (a+b)))
 | .sub=>some (.int k (wr k (a-b)))
 | .mul=>some (.int k (wr k (a*b)))
 | .quo=>if b=0 then none else some (.int k (wr k (a.tdiv b)))
 | .rem=>if b=0 then none else some (.int k (a.tmod b))
 | .and=>some (.int k (k.wrap (eQ k.bits a &&& eQ k.bits b).toNat))
 | .or=>some (.int k (k.wrap (eQ k.bits a ||| eQ k.bits b).toNat))
 | .xor=>some (.int k (k.wrap (eQ k.bits a ^^^ eQ k.bits b).toNat))
 | .andNot=>some (.int k (k.wrap (eQ k.bits a &&& ~~~ eQ k.bits b).toNat))
 | .eql=>some (.bool (decide (a=b)))
 | .neq=>some (.bool (!decide (a=b)))
 | .lss=>some (.bool (decide (a<b)))
 | .leq=>some (.bool (decide (a<=b)))
 | .gtr=>some (.bool (decide (b<a)))
 | .geq=>some (.bool (decide (b<=a)))
 |_=>none):=by
 cases op <;> simp only[arith,Hi,jH,QV,HA,Gx]
 all_goals
  by_cases h:b=0
  ·simp[h]
  ·simp[h]
def shift(op:BinOp)(k:fz)(a b:Int):Option V:=
 if b<0 then none else
 match op with
 | .shl=>some (.int k (k.wrap (a*2 ^ (min b.toNat k.bits))))
 | .shr=>some (.int k (a.fdiv (2 ^ (min b.toNat k.bits))))
 |_=>none
def uE(op:BinOp)(a b:List Nat):Option V:=
 match op with
 | .add=>if decide (a.length+b.length<=9223372036854775807) then some (.str (a++b)) else none
 | .eql=>some (.bool (seq a b))
 | .neq=>some (.bool (!seq a b))
 | .lss=>some (.bool (slt a b))
 | .leq=>some (.bool (slt a b||seq a b))
 | .gtr=>some (.bool (!(slt a b||seq a b)))
 | .geq=>some (.bool (!slt a b))
 |_=>none
def bin(E:Env)(op:BinOp)(t:Nat)(xL:Bool)(x y:V):Option V:=
 match x,y with
 | .int k a,.int k' b=>
  match op with
  | .shl | .shr=>shift op k a b
  |_=>if k=k' then arith op k a b else none
 | .str a,.str b=>uE op a b
 |x,y=>match op with
  | .eql=>(mM E t xL x y).map .bool
  | .neq=>(mM E t xL x y).map (λb=>.bool (!b))
  |_=>none
def unop(op:UnOp)(x:V):Option V:=
 match op,x with
 | .not,.bool b=>some (.bool !b)
 | .neg,.int k n=>some (.int k (wr k (0-n)))
 |_,_=>none
def u8s(s:List Nat):List V:=s.map λ(c:Nat)=>.int .u8 (c:Int)
def It:List V->Option (List Nat)
 | []=>some []
 | .int .u8 n::r=>if decide (0<=n)&&decide (n<256) then (match It r with | some l=>some (n.toNat::l) | none=>none) else none
 |_=>none
def Gw(sz:Nat):List (List V)->Bool
 | []=>true
 |r::_=>r.length==sz
def elems(Z:Sg)(size:Nat):V->Option (List V × Nat)
 | .aG=>some ([],0)
 | .str s=>if size=1 then some (u8s s,s.length) else none
 | .bV _ xs _=>if Gw size xs then some (xs.flatten,xs.length) else none
 | .sl b off len _=>match Z[b]? with
  |some (.cells _ cs _)=>if off+len*size<=cs.length then some ((cs.drop off).take (len*size),len) else none
  |_=>none
 |_=>none
def roomy(need bytes:Nat):Bool:=decide ((2*need+256)*(bytes+1)<=281474976710656)
def pV(need bytes:Nat):Bool:=decide (need*(bytes+1)<=281474976710656)
def A6:Kd->Bool
 | .int _=>true
 |_=>false
def eD(E:Env)(ats:Array Nat):Bool:=
 match ats[1]? with
 |none=>true
 |some xt=>match E.ty xt with
  |some xi=>!A6 xi.kd
  |none=>false
def append(E:Env)(Z:Sg)(argTypes:Array Nat)(s x:V):Option (V × Sg):=
 match argTypes[0]? with
 |none=>none
 |some st=>match E.ty st with
  |some { kd:=.sl e,.. }=>match E.ty e with
   |none=>none
   |some i=>
    if !eD E argTypes||i.size==0 then no "append: size" else
    match elems Z i.size x with
    |none=>no "append: what"
    |some (new,n)=>
     match s with
     | .aG=>if n=0 then some (.aG,Z) else if pV n i.bytes then some (.sl Z.length 0 n none,Z++[.cells e new false]) else no "append: room"
     | .bV _ xs full=>
      if n=0 then some (s,Z)
      else if full&&Gw i.size xs&&roomy (xs.length+n) i.bytes then some (.sl Z.length 0 (xs.length+n) none,Z++[.cells e (xs.flatten++new) false])
      else no "append: shared"
     | .sl b off len cap=>match Z[b]? with
      |some (.cells t cs ex)=>
       if !(t==e&&decide (off+len*i.size<=cs.length)&&roomy (len+n) i.bytes) then no "append: form" else
       match cap with
       |some k=>
        if len+n<=k then (if off+(len+n)*i.size<=cs.length then some (.sl b off (len+n) cap,Z.set b (.cells t (setCells cs (off+len*i.size) new) ex)) else no "append: cap")
        else some (.sl Z.length 0 (len+n) none,Z++[.cells e ((cs.drop off).take (len*i.size)++new) false])
       |none=>
        if off+(len+n)*i.size<=cs.length then some (.sl b off (len+n) none,Z.set b (.cells t (setCells cs (off+len*i.size) new) ex))
        else if ex then some (.sl Z.length 0 (len+n) none,Z++[.cells e ((cs.drop off).take (len*i.size)++new) false])
        else if off=0 then some (.sl Z.length 0 (len+n) none,Z.set b .dead++[.cells e (cs.take (len*i.size)++new) false])
        else no "append: off"
      |_=>no "append: dead"
     |_=>no "append: form"
  |_=>none
def bound(len:Nat):Option V->Nat->Option Nat
 |none,d=>some d
 |some (.int _ i),_=>if decide (0<=i)&&decide (i<=len) then some i.toNat else none
 |_,_=>none
def DO(mx:Option V)(m h:Nat)(full:Bool)(n:Nat):Bool:=
 match mx with
 |some _=>m==h
 |none=>full&&h==n
def yW(n off size:Nat)(cap:Option Nat):Nat:=
 match cap with
 |some k=>if k<=(n-off) / size then k else (n-off) / size
 |none=>(n-off) / size
def slice(E:Env)(Z:Sg)(t:Nat)(x:V)(low high max:Option V):Option V:=
 match E.ty t with
 |none=>none
 |some ti=>
 match ti.kd,x with
 | .str,.str s=>if max.isSome then none else
  match bound s.length high s.length with
  |none=>none
  |some h=>match bound h low 0 with
   |none=>none
   |some l=>some (.str ((s.drop l).take (h-l)))
 | .sl e,.aG=>match E.ty e,bound 0 max 0,max.isSome&&high.isNone with
  |some _,some m,false=>match bound m high 0 with
   |some h=>match bound h low 0 with
    |some _=>some .aG
    |none=>none
   |none=>none
  |_,_,_=>none
 | .sl e,.bV g xs full=>match E.ty e,max.isSome&&high.isNone with
  |some i,false=>if !Gw i.size xs then none else
   match bound xs.length max xs.length with
   |none=>none
   |some m=>match bound m high xs.length with
    |none=>none
    |some h=>match bound h low 0 with
     |none=>none
     |some l=>some (.bV g ((xs.drop l).take (h-l)) (DO max m h full xs.length))
  |_,_=>none
 | .sl e,.sl b off len cap=>
  match E.ty e,Z[b]?,max.isSome&&high.isNone with
  |some i,some (.cells u cs ex),false=>
   if i.size=0 then none else
   if !(u==e) then none else
   match max with
   |some _=>match bound (yW cs.length off i.size cap) max 0 with
    |none=>none
    |some m=>match bound m high 0 with
     |none=>none
     |some h=>match bound h low 0 with
      |none=>none
      |some l=>if m=l then some (.sl b off 0 (some 0)) else some (.sl b (off+l*i.size) (h-l) (some (m-l)))
   |none=>match bound (yW cs.length off i.size cap) high len with
    |none=>none
    |some h=>match bound h low 0 with
     |none=>none
     |some l=>match cap with
      |some k=>if k=l then some (.sl b off 0 (some 0)) else some (.sl b (off+l*i.size) (h-l) (some (k-l)))
      |none=>
       if off+l*i.size<cs.length then some (.sl b (off+l*i.size) (h-l) none)
       else if ex then some (.sl b off 0 (some 0))
       else if l=0 then some (.sl b off (h-l) none)
       else no "slice: end"
  |_,_,_=>no "slice: dead"
 |_,_=>no "slice: form"
def indexAddr(E:Env)(t:Nat)(x i:V):Option V:=
 match i with
 | .int _ n=>
  if n<0 then none else
  match x with
  | .bV g xs _=>match E.ty t with
   |some { kd:=.sl e,.. }=>match E.ty e,xs[n.toNat]? with
    |some ei,some r=>if r.length==ei.size then some (.cR g r) else no "index: size"
    |_,_=>no "index"
   |_=>none
  | .sl b off len _=>match E.ty t with
   |some { kd:=.sl e,.. }=>match E.ty e with
    |some ei=>if n.toNat<len then some (.ref b (off+n.toNat*ei.size)) else no "index"
    |none=>none
   |_=>none
  |_=>no "indexAddr"
 |_=>none
def index(E:Env)(t:Nat)(x i:V):Option V:=
 match E.ty t,x,i with
 |some { kd:=.str,.. },.str s,.int _ n=>if n<0 then none else match s[n.toNat]? with
  |some c=>some (.int .u8 (c:Nat))
  |none=>no "index"
 |_,_,_=>no "index: form"
def fieldAddr(E:Env)(t:Nat)(x:V)(f:Nat):Option V:=
 match E.ty t with
 |some { kd:=.jL fs,.. }=>match fs[f]? with
  |some (off,ft)=>match E.ty ft with
   |some fi=>if fi.size=0 then none else match x with
    | .ref b o=>some (.ref b (o+off))
    | .cR g cs=>some (.cR g (cs.drop off))
    |_=>no "fieldAddr"
   |none=>none
  |none=>none
 |_=>none
def part(E:Env)(t:Nat)(cs:List V)(off:Nat):Option V:=
 match E.ty t with
 |some i=>if isAgg i.kd then (if off+i.size<=cs.length then some (.agg ((cs.drop off).take i.size)) else none) else cs[off]?
 |none=>none
def field(E:Env)(t:Nat)(x:V)(f:Nat):Option V:=
 match E.ty t,x with
 |some { kd:=.jL fs,.. },.agg cs=>match fs[f]? with
  |some (off,ft)=>part E ft cs off
  |none=>none
 |_,_=>none
def eH(E:Env)(t:Nat)(k:V):Bool:=
 match E.ty t,k with
 |some { kd:=.str,.. },.str _=>true
 |some { kd:=.int _,.. },.int ..=>true
 |some { kd:=.jL _,.. },.agg a=>match E.eqs t with
  |some sh=>(eqs sh a a).isSome
  |none=>false
 |_,_=>false
def entriesOf(Z:Sg)(x:V):Option (List (V × V)):=
 match x with
 | .cA=>some []
 | .imp _ es=>some es
 | .mp b=>match Z[b]? with
  |some (.map es)=>some es
  |_=>none
 |_=>none
def lookup(E:Env)(Z:Sg)(t:Nat)(x k:V)(ok:Bool):Option V:=
 match E.ty t with
 |some { kd:=.map kt e,.. }=>
  if !eH E kt k then no "lookup: key" else
  match E.ty e with
  |none=>none
  |some ei=>
   match entriesOf Z x with
   |none=>none
   |some es=>match jA (dG E kt) k es with
    |none=>no "lookup: find"
    |some r=>
     let v:=match r with | some v=>v | none=>ei.zero
     some (if ok then .fR [v,.bool r.isSome] else v)
 |_=>no "lookup: type"
def fG:V->Bool
 | .agg cs=>cs.all V.aZ
 |v=>v.aZ
def mapUpdate(E:Env)(Z:Sg)(t:Nat)(x k v:V):Option Sg:=
 match E.ty t,x with
 |some { kd:=.map kt _,.. },.mp b=>
  if !eH E kt k || !fG v then no "mapUpdate: form" else
  match Z[b]? with
  |some (.map es)=>(kX (dG E kt) k v es).map λes=>Z.set b (.map es)
  |_=>no "mapUpdate: dead"
 |_,_=>no "mapUpdate"
def convert(E:Env)(Z:Sg)(src dst:Nat)(x:V):Option V:=
 match E.ty src,E.ty dst with
 |some s,some d=>match s.kd,d.kd,x with
  |_,.int k,.int _ n=>some (.int k (wr k n))
  |_,.str,.str s=>some (.str s)
  | .ptr e,.other,.ref b 0=>match Z[b]?,E.ty e with
   |some (.cells u cs true),some i=>if u=e/\cs.length=i.size/\0<i.size then some (.ref b 0) else none
   |_,_=>none
  | .other,.ptr e,.ref b 0=>match Z[b]?,E.ty e with
   |some (.cells u cs true),some i=>if u=e/\cs.length=i.size/\0<i.size/\E.Ey e=true then some (.ref b 0) else none
   |_,_=>none
  | .sl e,.str,.aG=>match E.ty e with
   |some ei=>(match ei.kd with | .int .u8=>some (.str []) | _=>none)
   |none=>none
  | .sl e,.str,.sl b off len cap=>match E.ty e with
   |some ei=>(match ei.kd with
    | .int .u8=>if ei.size=1 then (match elems Z 1 (.sl b off len cap) with
     |some (cs,_)=>(match It cs with | some l=>some (.str l) | none=>none)
     |none=>none) else none
    |_=>none)
   |none=>none
  | .sl e,.str,.bV g xs f=>match E.ty e with
   |some ei=>(match ei.kd with
    | .int .u8=>if ei.size=1 then (match elems Z 1 (.bV g xs f) with
     |some (cs,_)=>(match It cs with | some l=>some (.str l) | none=>none)
     |none=>none) else none
    |_=>none)
   |none=>none
  |_,_,_=>no "convert"
 |_,_=>no "convert"
def CS(E:Env)(src dst:Nat)(x:V):Option V:=
 match x with
 | .str s=>match E.ty src,E.ty dst with
  |some { kd:=.str,.. },some { kd:=.sl e,.. }=>match E.ty e with
   |some { kd:=.int .u8,size:=1,.. }=>if s.length<=1099511627776 then some (.bV false (s.map λ(ch:Nat)=>[V.int .u8 (ch:Int)]) false) else none
   |_=>none
  |_,_=>none
 |_=>none
def RJ:V->Option Nat
 | .aG=>some 0
 | .sl _ _ _ (some k)=>some k
 | .bV _ xs true=>some xs.length
 |_=>none
def lenOf(E:Env)(Z:Sg)(t:Nat)(x:V):Option Nat:=
 match E.ty t with
 |none=>none
 |some i=>match i.kd,x with
  | .str,.str s=>some s.length
  | .sl _,.aG=>some 0
  | .sl _,.bV _ xs _=>some xs.length
  | .sl _,.sl _ _ n _=>some n
  | .map ..,.cA=>some 0
  | .map ..,.imp _ es=>some es.length
  | .map ..,.mp b=>match Z[b]? with
   |some (.map es)=>some es.length
   |_=>none
  |_,_=>none
def iN(mx:Bool)(k:fz):Int->List V->Option Int
 |a,[]=>some a
 |a,.int _ b::r=>iN mx k (if mx then (if b > a then b else a) else (if b<a then b else a)) r
 |_,_=>none
def builtin(E:Env)(Z:Sg)(b:Builtin)(argTypes:Array Nat)(args:List V):Option (V × Sg):=
 match b,args with
 | .len,[x]=>match argTypes[0]? with
  |some t=>match lenOf E Z t x with
   |some n=>some (.int .i64 (n:Nat),Z)
   |none=>none
  |none=>none
 | .append,[s,x]=>append E Z argTypes s x
 | .cap,[x]=>match argTypes[0]? with
  |some t=>match E.ty t,RJ x with
   |some { kd:=.sl _,.. },some n=>some (.int .i64 (n:Nat),Z)
   |_,_=>no "cap"
  |none=>none
 | .copy,[.sl _ _ _ _,.aG]=>match argTypes[0]? with
  |some t=>match E.ty t with
   |some { kd:=.sl e,.. }=>if (E.ty e).isSome then some (.int .i64 0,Z) else none
   |_=>none
  |none=>none
 | .max,.int k a::l=>match iN true k a l with
  |some n=>some (.int k n,Z)
  |none=>none
 | .min,.int k a::l=>match iN false k a l with
  |some n=>some (.int k n,Z)
  |none=>none
 | .clear,[.sl b off len _]=>match argTypes[0]? with
  |some t=>match E.ty t with
   |some { kd:=.sl e,.. }=>match E.ty e,Z[b]? with
    |some i,some (.cells u cs ex)=>
     if len=0 then some (.fR [],Z)
     else if u==e&&decide (off+len*i.size<=cs.length) then some (.fR [],Z.set b (.cells u (setCells cs off (gG len i.zero.cells)) ex)) else none
    |_,_=>none
   |_=>none
  |none=>none
 | .unsafeSliceData,[.sl b off len _]=>if len=0 then none else some (.ref b off,Z)
 | .unsafeSliceData,[.aG]=>some (.fV,Z)
 | .unsafeString,[.fV,.int .i64 0]=>match argTypes.toList with
  | [_,_]=>some (.str [],Z)
  |_=>none
 | .unsafeString,[.ref b 0,.int .i64 n]=>match argTypes.toList with
  | [pt,_]=>match E.ty pt with
   |some { kd:=.ptr e,.. }=>match E.ty e,Z[b]? with
    |some i,some (.cells u cs _)=>
     if i.size=1/\u=e/\0<n/\n<=9223372036854775807/\n.toNat<=cs.length then (match It (cs.take n.toNat) with
      |some l=>some (.str l,Z.set b .dead)
      |none=>none)
     else no "unsafeString"
    |_,_=>none
   |_=>none
  |_=>none
 |_,_=>no "builtin"
def aS(fr:Fr):χ->Option V
 | .tmp t=>fr.get t
 | .const v=>ofValue v
 | .global _=>no "global"
 | .func f=>some (.fn f [] [])
def eJ(fr:Fr):List χ->Option (List V)
 | []=>some []
 |x::r=>match aS fr x,eJ fr r with
  |some v,some l=>some (v::l)
  |_,_=>none
def lX(fr:Fr):List (Nat × χ)->Option (List (Nat × V))
 | []=>some []
 |(i,x)::r=>match aS fr x,lX fr r with
  |some v,some l=>some ((i,v)::l)
  |_,_=>none
def qK(fr:Fr):Option χ->Option (Option V)
 |none=>some none
 |some x=>(aS fr x).map some
def isConst:χ->Bool
 | .const _=>true
 |_=>false
def G9:V->Bool
 | .fR _ | .undef=>true
 |_=>false
def kH(E:Env)(fr:Fr)(Z:Sg)(c a b:χ):Option (V × Sg):=
 match aS fr c,aS fr a,aS fr b with
  |some (.bool t),some a,some b=>some (if t then a else b,Z)
  |_,_,_=>no "pick"
def tD(E:Env)(fr:Fr)(Z:Sg)(e:Nat):Option (V × Sg):=
 match E.ty e with
  |some i=>some (.ref Z.length 0,Z++[.cells e i.zero.cells true])
  |none=>no "alloc"
def Iu(E:Env)(fr:Fr)(Z:Sg)(e:Nat)(x:χ):Option (V × Sg):=
 match E.ty e,aS fr x with
  |some i,some v=>if v.cells.length==i.size&&v.cells.all V.aZ then some (.ref Z.length 0,Z++[.cells e v.cells true]) else no "box"
  |_,_=>no "box"
def rG(E:Env)(fr:Fr)(Z:Sg)(t:Nat)(parts:Array (Nat × χ)):Option (V × Sg):=
 match E.ty t,lX fr parts.toList with
  |some i,some ps=>match i.kd with
   | .jL fs=>if !fs.all (λf=>(E.ty f.2).isSome) then none else match fill (placeOf E fs) i.zero.cells ps with
    |some cs=>some (.agg cs,Z)
    |none=>no "build"
   |_=>no "build"
  |_,_=>no "build"
def fL(E:Env)(fr:Fr)(Z:Sg)(t len:Nat)(parts:Array (Nat × χ)):Option (V × Sg):=
 match E.ty t,lX fr parts.toList with
  |some { kd:=.sl e,.. },some ps=>match E.ty e with
   |some i=>if len*i.size<=16777216 then (match fill (λj=>some (j*i.size,i.size)) (gG len i.zero.cells) ps with
     |some cs=>some (.sl Z.length 0 len none,Z++[.cells e cs true])
     |none=>no "buildSlice") else none
   |none=>no "buildSlice"
  |_,_=>no "buildSlice"
def iS(E:Env)(fr:Fr)(Z:Sg)(t:Nat)(a:χ):Option (V × Sg):=
 match aS fr a with
  |some a=>(loadAt E Z t a).map (·,Z)
  |none=>none
def kG(E:Env)(fr:Fr)(Z:Sg)(t:Nat)(a x:χ):Option (V × Sg):=
 match aS fr a,aS fr x with
  |some a,some v=>(storeAt E Z t a v).map (.undef,·)
  |_,_=>none
def jS(E:Env)(fr:Fr)(Z:Sg)(x:χ):Option (V × Sg):=
 match aS fr x with
  |some .fV | some .rT | some .rH | some .undef | none=>no "nilCheck"
  |some v=>some (v,Z)
def eY(E:Env)(fr:Fr)(Z:Sg)(op:BinOp)(t:Nat)(x y:χ):Option (V × Sg):=
 match aS fr x,aS fr y with
  |some a,some b=>match bin E op t (isConst x||isConst y) a b with
   |some v=>some (v,Z)
   |none=>no "bin"
  |_,_=>no "bin: operands"
def oQ(E:Env)(fr:Fr)(Z:Sg)(op:UnOp)(x:χ):Option (V × Sg):=
 match aS fr x with
  |some a=>(unop op a).map (·,Z)
  |none=>none
def mW(E:Env)(fr:Fr)(Z:Sg)(s d:Nat)(x:χ):Option (V × Sg):=
 match aS fr x with
  |some a=>match CS E s d a with
   |some v=>some (v,Z)
   |none=>(convert E Z s d a).map (·,Z)
  |none=>none
def qA(E:Env)(fr:Fr)(Z:Sg)(t:Nat)(x:χ):Option (V × Sg):=
 match E.ty t,aS fr x with
  |some { kd:=.str,.. },some (.str s)=>some (.ref Z.length 0,Z++[.JK s 0])
  |some { kd:=.map ..,.. },some (.imp _ es)=>some (.ref Z.length 0,Z++[.tF es none])
  |some { kd:=.map ..,.. },some .cA=>some (.ref Z.length 0,Z++[.tF [] none])
  |_,_=>no "range"
def xG(E:Env)(fr:Fr)(Z:Sg)(x:χ):Option (V × Sg):=
 match aS fr x with
  |some (.ref b 0)=>match Z[b]? with
   |some (.JK s pos)=>match s[pos]? with
    |some ch=>if ch<128 then some (.fR [.bool true,.int .i64 (pos:Nat),.int .i32 (ch:Nat)],Z.set b (.JK s (pos+1)))
     else if ch<256 then some (.fR [.bool true,.int .i64 (pos:Nat),.int .i32 ((Utf8.decode (sP s) pos).1:Nat)],Z.set b (.JK s (pos+(Utf8.decode (sP s) pos).2)))
     else some (.fR [.bool true,.int .i64 (pos:Nat),.int .i32 65533],Z.set b (.JK s (pos+1)))
    |none=>some (.fR [.bool false],Z)
   |_=>no "next: dead"
  |_=>no "next"
def AV(fr:Fr)(Z:Sg)(x:χ):Option (V × Sg):=
 match aS fr x with
  |some (.ref b 0)=>match Z[b]? with
   |some (.tF _ (some e))=>some (.fR [e.1,e.2],Z)
   |_=>no "entry: dead"
  |_=>no "entry"
def eE(E:Env)(fr:Fr)(Z:Sg)(t:Nat)(x:χ):Option (V × Sg):=
 match aS fr x with
  |some a=>match E.ty t with
   |some i=>(match i.kd with
    | .A8=>none
    |_=>if G9 a then none else some (.A8 t a,Z))
   |none=>none
  |none=>none
def jT(E:Env)(fr:Fr)(Z:Sg)(f:Nat)(first cap:Array χ):Option (V × Sg):=
 match eJ fr first.toList,eJ fr cap.toList with
  |some a,some b=>some (.fn f a b,Z)
  |_,_=>none
def mV(E:Env)(fr:Fr)(Z:Sg)(t:Nat)(r:Option χ):Option (V × Sg):=
 match qK fr r with
  |some none=>some (.mp Z.length,Z++[.map []])
  |some (some (.int ..))=>match E.ty t with
   |some { kd:=.map ..,.. }=>some (.mp Z.length,Z++[.map []])
   |_=>no "makeMap: type"
  |_=>no "makeMap"
def kI(E:Env)(fr:Fr)(Z:Sg)(t:Nat)(l c:χ):Option (V × Sg):=
 match E.ty t,aS fr l,aS fr c with
  |some { kd:=.sl e,.. },some (.int _ n),some (.int _ m)=>match E.ty e with
   |some i=>if decide (0<=n)&&decide (n<=m)&&decide (m*i.bytes<=1099511627776)&&decide (m<=1099511627776) then
     some (.sl Z.length 0 n.toNat none,Z++[.cells e (gG m.toNat i.zero.cells) true]) else no "makeSlice"
   |none=>none
  |_,_,_=>no "makeSlice"
def tA(E:Env)(fr:Fr)(Z:Sg)(t:Nat)(x:χ)(lo hi mx:Option χ):Option (V × Sg):=
 match aS fr x,qK fr lo,qK fr hi,qK fr mx with
  |some x,some lo,some hi,some mx=>(slice E Z t x lo hi mx).map (·,Z)
  |_,_,_,_=>none
def iK(E:Env)(fr:Fr)(Z:Sg)(t:Nat)(x:χ)(f:Nat):Option (V × Sg):=
 match aS fr x with
  |some a=>(fieldAddr E t a f).map (·,Z)
  |none=>none
def rF(E:Env)(fr:Fr)(Z:Sg)(t:Nat)(x:χ)(f:Nat):Option (V × Sg):=
 match aS fr x with
  |some a=>(field E t a f).map (·,Z)
  |none=>none
def cB(E:Env)(fr:Fr)(Z:Sg)(t:Nat)(x i:χ):Option (V × Sg):=
 match aS fr x,aS fr i with
  |some a,some b=>(indexAddr E t a b).map (·,Z)
  |_,_=>none
def rE(E:Env)(fr:Fr)(Z:Sg)(t:Nat)(x i:χ):Option (V × Sg):=
 match aS fr x,aS fr i with
  |some a,some b=>(index E t a b).map (·,Z)
  |_,_=>none
def eB(E:Env)(fr:Fr)(Z:Sg)(t:Nat)(x k:χ)(ok:Bool):Option (V × Sg):=
 match aS fr x,aS fr k with
  |some a,some b=>(lookup E Z t a b ok).map (·,Z)
  |_,_=>none
def dZ(E:Env)(fr:Fr)(Z:Sg)(t:Nat)(m k x:χ):Option (V × Sg):=
 match aS fr m,aS fr k,aS fr x with
  |some a,some b,some v=>(mapUpdate E Z t a b v).map (.undef,·)
  |_,_,_=>none
def cZ(E:Env)(fr:Fr)(Z:Sg)(t:χ)(i:Nat):Option (V × Sg):=
 match aS fr t with
  |some (.fR vs)=>(vs[i]?).map (·,Z)
  |_=>no "extract"
def eN(E:Env)(fr:Fr)(Z:Sg)(b:Builtin)(args:Array χ)(argTypes:Array Nat):Option (V × Sg):=
 match eJ fr args.toList with
  |some l=>builtin E Z b argTypes l
  |none=>none
def aT(E:Env)(fr:Fr)(Z:Sg)(op:Op):Option (V × Sg):=
 match op with
 | .move x | .assign x=>(aS fr x).map (·,Z)
 | .pick c a b=>kH E fr Z c a b
 | .alloc e=>tD E fr Z e
 | .box e x=>Iu E fr Z e x
 | .build t parts=>rG E fr Z t parts
 | .buildSlice t len parts=>fL E fr Z t len parts
 | .load t a=>iS E fr Z t a
 | .store t a x=>kG E fr Z t a x
 | .nilCheck x=>jS E fr Z x
 | .binOp op t x y _=>eY E fr Z op t x y
 | .unOp op _ x=>oQ E fr Z op x
 | .convert s d x=>mW E fr Z s d x
 | .range t x=>qA E fr Z t x
 | .next x true=>xG E fr Z x
 | .entry x=>AV fr Z x
 | .makeInterface t x=>eE E fr Z t x
 | .makeFunc (.func f) first cap=>jT E fr Z f first cap
 | .makeMap t r=>mV E fr Z t r
 | .makeSlice t l c=>kI E fr Z t l c
 | .slice t x lo hi mx=>tA E fr Z t x lo hi mx
 | .fieldAddr t x f=>iK E fr Z t x f
 | .field t x f=>rF E fr Z t x f
 | .indexAddr t x i=>cB E fr Z t x i
 | .index t x i=>rE E fr Z t x i
 | .lookup t x k ok=>eB E fr Z t x k ok
 | .mapUpdate t m k x | .insert t m k x=>dZ E fr Z t m k x
 | .extract t i=>cZ E fr Z t i
 | .call { callee:=.builtin b,args,argTypes }=>eN E fr Z b args argTypes
 |_=>no "op"
inductive X where
 |normal | exit (id:Nat) | ret
 deriving Inhabited
def yielded(ops:Array cd)(fr:Fr)(j:Nat):Option Bool:=
 match ((ops[j]?).bind (·.dst)).bind fr.get with
 |some (.bool b)=>some b
 |_=>none
def cW(fr:Fr)(dst:Option Nat)(v:V):Fr:=
 match dst with
 |some d=>fr.put d v
 |none=>fr
def results(E:Env)(fr:Fr)(Z:Sg):List ResultVar->Option (List V)
 | []=>some []
 | .tmp t::r=>match fr.get t,results E fr Z r with
  |some v,some l=>some (v::l)
  |_,_=>none
 | .cell a t::r=>match fr.get a,results E fr Z r with
  |some a,some l=>(loadAt E Z t a).map (· :: l)
  |_,_=>none
abbrev yQ:=Code->Fr->Sg->Option (X × Fr × Sg)
def enter(E:Env)(ev:yQ)(F:Fn)(args:List V)(Z:Sg):Option (V × Sg):=
 match Fr.init F.ntmps args with
 |none=>no "args"
 |some fr=>match ev F.code fr Z with
 |some (.ret,fr,Z) | some (.normal,fr,Z)=>match results E fr Z F.results with
  |some [v]=>some (v,Z)
  |some vs=>some (.fR vs,Z)
  |none=>no "results"
 |_=>none
def iH(E:Env)(ev:yQ)(f:Nat)(args:List V)(Z:Sg):Option (V × Sg):=
 match E.hspec f with
 |some s=>s args Z
 |none=>
 match E.spec f with
 |some s=>match aW (aR Z E.ty true) args with
  |some args=>match s args with
   |some v=>(match cQ [] E.ty false v with
    |some v=>some (v,Z)
    |none=>no "spec: result")
   |none=>no "spec"
  |none=>no "spec: args"
 |none=>match E.fn f with
  |none=>no ("no function " ++ toString f)
  |some F=>
   match E.mode f with
   | .shared=>match enter E ev F args Z with
    |some r=>some r
    |none=>no ("in function " ++ toString f)
   |m=>
    let g:=match m with | .eW=>true | _=>false
    match aW (aR Z E.ty g) args with
    |some args'=>match enter E ev F args' [] with
     |some (v,σ1)=>match cQ σ1 E.ty false v with
      |some v=>some (v,if g then Z else kill Z (args.flatMap (nD Z)))
      |none=>no ("result of function " ++ toString f)
     |none=>no ("in function " ++ toString f)
    |none=>no ("args of function " ++ toString f)
def Dz(E:Env)(fr:Fr)(t len:Nat)(parts:List (Nat × χ)):Option V:=
 match E.ty t,lX fr parts with
 |some { kd:=.sl e,.. },some ps=>match E.ty e with
  |some i=>if len*i.size<=16777216 then (match fill (λj=>some (j*i.size,i.size)) (gG len i.zero.cells) ps with
    |some cs=>if cs.all (cI false) then some (.bV false (rows i.size len cs) true) else no "literal: tag"
    |none=>no "literal") else none
  |none=>no "literal"
 |_,_=>no "literal"
inductive Fz where
 |no | lit | app
def Fz.lits:Fz->Bool
 | .no=>false
 |_=>true
def Fz.apps:Fz->Bool
 | .app=>true
 |_=>false
def vY(E:Env)(fr:Fr)(Z:Sg)(args:List χ)(ats:Array Nat):Option V:=
 match eJ fr args with
 |some [.aG,x]=>match aW (aR Z E.ty true) [.aG,x] with
  |some vs=>match builtin E [] .append ats vs with
   |some (v,σ1)=>cQ σ1 E.ty false v
   |none=>none
  |none=>none
 |_=>no "append: not to nothing"
def lP(E:Env)(ev:yQ)(dr:Fz)(op:Op)(fr:Fr)(Z:Sg):Option (V × Sg):=
 match op with
 | .call { callee:=.value f,args,.. }=>match aS fr f,eJ fr args.toList with
  |some (.fn k first cap),some l=>iH E ev k (first++l++cap) Z
  |_,_=>no "call"
 | .buildSlice t len parts=>if dr.lits then (Dz E fr t len parts.toList).map (·,Z) else aT E fr Z op
 | .call { callee:=.builtin .append,args,argTypes }=>if dr.apps then (vY E fr Z args.toList argTypes).map (·,Z) else aT E fr Z op
 |op=>aT E fr Z op
inductive K where
 |plain (f:Fr->Sg->Option (V × Sg))
 |call (f:χ) (args:List χ)
 |lit (t len:Nat) (parts:Array (Nat × χ))
 |app (args:Array χ) (ats:Array Nat)
def comp(E:Env):Op->K
 | .move x=>.plain λfr Z=>(aS fr x).map (·,Z)
 | .assign x=>.plain λfr Z=>(aS fr x).map (·,Z)
 | .pick c a b=>.plain λfr Z=>kH E fr Z c a b
 | .alloc e=>.plain λfr Z=>tD E fr Z e
 | .box e x=>.plain λfr Z=>Iu E fr Z e x
 | .build t parts=>.plain λfr Z=>rG E fr Z t parts
 | .buildSlice t len parts=>.lit t len parts
 | .load t a=>.plain λfr Z=>iS E fr Z t a
 | .store t a x=>.plain λfr Z=>kG E fr Z t a x
 | .nilCheck x=>.plain λfr Z=>jS E fr Z x
 | .binOp op t x y _=>.plain λfr Z=>eY E fr Z op t x y
 | .unOp op _ x=>.plain λfr Z=>oQ E fr Z op x
 | .convert s d x=>.plain λfr Z=>mW E fr Z s d x
 | .makeInterface t x=>.plain λfr Z=>eE E fr Z t x
 | .makeMap t r=>.plain λfr Z=>mV E fr Z t r
 | .makeSlice t l c=>.plain λfr Z=>kI E fr Z t l c
 | .slice t x lo hi mx=>.plain λfr Z=>tA E fr Z t x lo hi mx
 | .fieldAddr t x f=>.plain λfr Z=>iK E fr Z t x f
 | .field t x f=>.plain λfr Z=>rF E fr Z t x f
 | .indexAddr t x i=>.plain λfr Z=>cB E fr Z t x i
 | .index t x i=>.plain λfr Z=>rE E fr Z t x i
 | .lookup t x k ok=>.plain λfr Z=>eB E fr Z t x k ok
 | .extract t i=>.plain λfr Z=>cZ E fr Z t i
 | .call { callee:=.value f,args,.. }=>.call f args.toList
 | .call { callee:=.builtin .append,args,argTypes }=>.app args argTypes
 |op=>.plain λfr Z=>aT E fr Z op
def lD(E:Env)(ev:yQ)(dr:Fz)(op:Op)(fr:Fr)(Z:Sg):Option (V × Sg):=
 match comp E op with
 | .plain f=>f fr Z
 | .call f args=>match aS fr f,eJ fr args with
  |some (.fn k first cap),some l=>iH E ev k (first++l++cap) Z
  |_,_=>no "call"
 | .lit t len parts=>if dr.lits then (Dz E fr t len parts.toList).map (·,Z) else fL E fr Z t len parts
 | .app args ats=>if dr.apps then (vY E fr Z args.toList ats).map (·,Z) else eN E fr Z .append args ats
theorem AU(E:Env)(ev:yQ)(dr:Fz)(op:Op)(fr:Fr)(Z:Sg):lD E ev dr op fr Z=lP E ev dr op fr Z:=by
 cases op with
 |call c=>
  obtain⟨callee,args,ats⟩:=c;cases callee with
  |builtin b=>cases b <;> rfl
  |_=>rfl
 |_=>rfl
def cE(ops:Array cd)(o:cd)(fr:Fr):Bool:=
 match o.guard with
 |none=>true
 |some (j,want)=>yielded ops fr j==some want
def bN(E:Env)(ev:yQ)(dr:Fz)(ops:Array cd)(o:cd)(fr:Fr)(Z:Sg):Option (Fr × Sg):=
 if cE ops o fr then
  match lD E ev dr o.op fr Z with
  |some (v,Z)=>some (cW fr o.dst v,Z)
  |none=>no o.pos
 else some (cW fr o.dst .undef,Z)
def gY(E:Env)(ev:yQ)(dr:Fz)(ops:Array cd):List cd->Fr->Sg->Option (Fr × Sg)
 | [],fr,Z=>some (fr,Z)
 |o::rest,fr,Z=>match bN E ev dr ops o fr Z with
  |some (fr,Z)=>gY E ev dr ops rest fr Z
  |none=>none
def effect(E:Env)(frz:Fz):Op->Bool × Bool
 | .buildSlice ..=>(!frz.lits,!frz.lits)
 | .move _ | .assign _ | .pick .. | .build .. | .nilCheck _ | .binOp .. | .unOp .. | .makeInterface .. | .makeFunc .. | .fieldAddr .. | .field .. | .indexAddr .. | .index .. | .extract ..=>(false,false)
 | .load .. | .convert .. | .slice .. | .lookup ..=>(true,false)
 | .call { callee:=.builtin .len,.. }=>(true,false)
 | .call { callee:=.builtin .min,.. }=>(false,false)
 | .call { callee:=.builtin .max,.. }=>(false,false)
 | .call { callee:=.builtin .append,.. }=>(true,!frz.apps)
 | .call { callee:=.builtin .unsafeSliceData,.. }=>(true,false)
 | .call { callee:=.value (.func f),.. }=>match E.hspec f,E.spec f,E.mode f with
  |none,some _,_=>(true,false)
  |none,none,.eW=>(true,false)
  |_,_,_=>(true,true)
 |_=>(true,true)
def tmpsOf:List χ->List Nat
 | []=>[]
 | .tmp t::r=>t::tmpsOf r
 |_::r=>tmpsOf r
def qV(ops:Array cd)(o:cd):List Nat:=
 tmpsOf o.op.operands.toList++match o.guard with
  |none=>[]
  |some (j,_)=>match (ops[j]?).bind (·.dst) with
   |some d=>[d]
   |none=>[]
def Ip(pre:List Nat)(o:cd):Nat:=
 o.after.toList.foldl (λb e=>if Region.binds .any e then b ||| (1 <<< e.on) ||| pre.getD e.on 0 else b) 0
def zI:List cd->List Nat->List Nat
 | [],pre=>pre
 |o::rest,pre=>zI rest (pre++[Ip pre o])
def pZ(E:Env)(frz:Fz)(ops:Array cd)(o p:cd):Bool:=
 !((effect E frz o.op).2&&(effect E frz p.op).2) &&
   (match o.dst with | some d=>!(qV ops p).contains d && !(p.dst==some d) | none=>true) &&
   (match p.dst with | some d=>!(qV ops o).contains d | none=>true)
def rL{α:Type}(f:α->α->Bool):List α->List α->Bool
 | [],[]=>true
 |a::x,b::y=>f a b&&rL f x y
 |_,_=>false
def sO:Nat->V->V->Bool
 |0,_,_=>false
 |n+1,a,b=>match a,b with
  | .bool a,.bool b=>a==b
  | .int k a,.int l b=>decide (k=l)&&decide (a=b)
  | .str a,.str b=>seq a b
  | .fV,.fV | .aG,.aG | .cA,.cA | .rH,.rH | .rT,.rT | .undef,.undef=>true
  | .bV g x f,.bV h y e=>g==h&&rL (rL (sO n)) x y&&f==e
  | .cR g x,.cR h y=>g==h&&rL (sO n) x y
  | .imp g x,.imp h y=>g==h&&rL (λp q=>sO n p.1 q.1&&sO n p.2 q.2) x y
  | .ref b o,.ref c p=>decide (b=c)&&decide (o=p)
  | .sl b o l none,.sl c p m none=>decide (b=c)&&decide (o=p)&&decide (l=m)
  | .sl b o l (some i),.sl c p m (some j)=>decide (b=c)&&decide (o=p)&&decide (l=m)&&decide (i=j)
  | .mp b,.mp c=>decide (b=c)
  | .fn f x y,.fn g z w=>decide (f=g)&&rL (sO n) x z&&rL (sO n) y w
  | .agg x,.agg y=>rL (sO n) x y
  | .fR x,.fR y=>rL (sO n) x y
  |_,_=>false
def again(E:Env)(ev:yQ)(frz:Fz)(ops:Array cd)(o:cd)(fr:Fr)(Z Y:Sg):Bool:=
 !cE ops o fr||match lD E ev frz o.op fr Z,lD E ev frz o.op fr Y with
  |some (u,_),some (v,_)=>sO 12 u v
  |_,_=>false
def iQ(E:Env)(ev:yQ)(frz:Fz)(ops:Array cd):List cd->Fr->Sg->Option (List (Fr × Sg))
 | [],fr,Z=>some [(fr,Z)]
 |o::rest,fr,Z=>match bN E ev frz ops o fr Z with
  |some (fr',σ')=>match iQ E ev frz ops rest fr' σ' with
   |some l=>some ((fr,Z)::l)
   |none=>none
  |none=>none
def wR:Nat->List cd->Bool
 |_,[]=>true
 |i,o::rest=>o.after.toList.all (λe=>!Region.binds .any e||decide (e.on<i))&&wR (i+1) rest
def last{α:Type}:List α->Option α
 | []=>none
 | [a]=>some a
 |_::r=>last r
structure Eu where
 i:Nat
 o:cd
 pre:Nat
 rd:Bool
 wr:Bool
def Ic(E:Env)(frz:Fz):Nat->List cd->List Nat->List Eu
 |i,o::rest,p::pre=>{ i,o,pre:=p,rd:=(effect E frz o.op).1,wr:=(effect E frz o.op).2 }::Ic E frz (i+1) rest pre
 |_,_,_=>[]
structure ER where
 i:Nat
 j:Nat
 a:Bool
 b:Bool
def zJ(E:Env)(frz:Fz)(ops:Array cd)(x:Eu):List Eu->Option (List ER)
 | []=>some []
 |y::r=>match y.pre.testBit x.i with
  |true=>zJ E frz ops x r
  |false=>match pZ E frz ops x.o y.o,zJ E frz ops x r with
   |true,some l=>match x.wr&&y.rd,x.rd&&y.wr with
    |false,false=>some l
    |a,b=>some ({ i:=x.i,j:=y.i,a,b }::l)
   |_,_=>none
def zL(E:Env)(frz:Fz)(ops:Array cd):List Eu->Option (List ER)
 | []=>some []
 |x::r=>match zJ E frz ops x r,zL E frz ops r with
  |some a,some b=>some (a++b)
  |_,_=>none
def cK(E:Env)(frz:Fz)(ops:Array cd):Option (List ER):=
 match wR 0 ops.toList with
 |true=>zL E frz ops (Ic E frz 0 ops.toList (zI ops.toList []))
 |false=>none
def iM(E:Env)(ev:yQ)(frz:Fz)(ops:Array cd)(ts:List (Fr × Sg))(d:ER):Bool:=
 match ops[d.i]?,ops[d.j]?,ts[d.i]?,ts[d.j]?,ts[d.j+1]? with
 |some x,some y,some p,some q,some r=>(!d.a||again E ev frz ops y q.1 q.2 p.2)&&(!d.b||again E ev frz ops x p.1 p.2 r.2)
 |_,_,_,_,_=>false
def GQ:Bool->List cd->Bool
 |b,[]=>b
 |b,o::r=>match o.op with
  | .call { callee:=.builtin .append,args,.. }=>match args.toList with
   | .const _::_=>GQ true r
   |_=>false
  |_=>GQ b r
def fP(E:Env)(ops:Array cd):Fz:=match decide (64<ops.size) with
 |true=>.lit
 |false=>match GQ false ops.toList with
  |true=>.app
  |false=>match cK E .no ops with
   |some _=>.no
   |none=>match cK E .lit ops with
    |some _=>.lit
    |none=>.app
def cP(E:Env)(ev:yQ)(ops:Array cd)(fr:Fr)(Z:Sg):Option (Fr × Sg):=
 match cK E (fP E ops) ops with
 |none=>no "draw: plan"
 |some []=>gY E ev (fP E ops) ops ops.toList fr Z
 |some l=>match iQ E ev (fP E ops) ops ops.toList fr Z with
  |none=>none
  |some ts=>if l.all (iM E ev (fP E ops) ops ts) then last ts else no "draw"
def ev(E:Env):Nat->yQ
 |0,_,_,_=>no "fuel"
 |n+1,c,fr,Z=>
  match c with
  | .skip=>some (.normal,fr,Z)
  | .seq a b=>match ev E n a fr Z with
   |some (.normal,fr,Z)=>ev E n b fr Z
   |r=>r
  | .cond c t e=>match aS fr c with
   |some (.bool true)=>ev E n t fr Z
   |some (.bool false)=>ev E n e fr Z
   |_=>no "cond"
  | .block id c=>match ev E n c fr Z with
   |some (.exit id',fr,Z)=>if id'=id then some (.normal,fr,Z) else some (.exit id',fr,Z)
   |r=>r
  | .loop c=>match ev E n c fr Z with
   |some (.normal,fr,Z)=>ev E n (.loop c) fr Z
   |r=>r
  | .exit id=>some (.exit id,fr,Z)
  | .ret=>some (.ret,fr,Z)
  | .region _ ops draw=>match (if draw then cP E (ev E n) ops fr Z else gY E (ev E n) .no ops ops.toList fr Z) with
   |some (fr,Z)=>some (.normal,fr,Z)
   |none=>none
  |_=>no "code"
def call(E:Env)(n:Nat)(f:Nat)(args:List V):Option V:=
 match E.fn f with
 |none=>none
 |some F=>match enter E (ev E n) F args [] with
  |some (v,σ1)=>cQ σ1 E.ty false v
  |none=>none
def sub(g:Bool)(I:Bool->Nat->Prop):Bool->Nat->Prop:=λh k=>I (g&&h) k
def eZ:ο->Nat
 | .bool _=>1
 | .int k _=>match k with | .i8=>2 | .i16=>3 | .i32=>4 | .i64=>5 | .u8=>6 | .u16=>7 | .u32=>8 | .u64=>9
 | .string _=>20
 |_=>0
def eU:ο->List Nat
 | .agg a=>99::a.toList.map eZ
 |v=>[eZ v]
structure Ye (en:Array ad) (clock:Nat):Prop where
 st:MapKept.Stamped en clock
 shape:∀x∈en.toList,∀y∈en.toList,eU x.key=eU y.key
mutual
inductive IR (w:Γ):(Bool->Nat->Prop)->V->ο->Prop
 |bool {I:Bool->Nat->Prop} (b:Bool):IR w I (.bool b) (.bool b)
 |int {I:Bool->Nat->Prop} (k:fz) (n:Int):IR w I (.int k n) (.int k n)
 |str {I:Bool->Nat->Prop} (s:ByteArray):IR w I (.str (bytes s)) (.string s)
 |fV {I:Bool->Nat->Prop}:IR w I .fV (.pointer none)
 |aG {I:Bool->Nat->Prop}:IR w I .aG (.slice none 0 0)
 |cA {I:Bool->Nat->Prop}:IR w I .cA (.map none)
 |rH {I:Bool->Nat->Prop}:IR w I .rH .nilFunc
 |rT {I:Bool->Nat->Prop}:IR w I .rT .nilIface
 |bV {I:Bool->Nat->Prop} (g:Bool) (xs:List (List V)) (full:Bool) (blk off len cap sz:Nat)(hi:I g blk)(hl:len=xs.length)(hc:len<=cap)(hf:full=true->cap=len)
   (hr:eK w (sub g I) sz xs blk off):IR w I (.bV g xs full) (.slice (some ⟨blk,off,none⟩) len cap)
 |emp {I:Bool->Nat->Prop} (g full:Bool) (a:Addr):IR w I (.bV g [] full) (.slice (some a) 0 0)
 |cR {I:Bool->Nat->Prop} (g:Bool) (cs:List V) (blk off:Nat)(hi:I g blk)(hr:dS w (sub g I) cs blk off):IR w I (.cR g cs) (.pointer (some ⟨blk,off,none⟩))
 |imp {I:Bool->Nat->Prop} (g:Bool) (es:List (V × V)) (blk:Nat) (entries:Array ad) (clock:Nat) (l:List ad)(hi:I g blk)(hm:w.heap[blk]?=some (.map entries clock))
   (ho:Ye entries clock)(hp:l.Perm entries.toList)(hr:sL w (sub g I) es l):IR w I (.imp g es) (.map (some blk))
 |fn {I:Bool->Nat->Prop} (f:Nat):IR w I (.fn f [] []) (.func (.func f) #[] #[])
inductive dS (w:Γ):(Bool->Nat->Prop)->List V->Nat->Nat->Prop
 |nil {I:Bool->Nat->Prop}{blk off:Nat}:dS w I [] blk off
 |cons {I:Bool->Nat->Prop} (v:V) (x:ο) (cs:List V) {blk off:Nat}(hc:w.cell? ⟨blk,off,none⟩=some x)(hv:IR w I v x)(hr:dS w I cs blk (off+1)):dS w I (v::cs) blk off
inductive eK (w:Γ):(Bool->Nat->Prop)->Nat->List (List V)->Nat->Nat->Prop
 |nil {I:Bool->Nat->Prop}{sz blk off:Nat}:eK w I sz [] blk off
 |cons {I:Bool->Nat->Prop}{sz:Nat} (r:List V) (xs:List (List V)) {blk off:Nat}(hl:r.length=sz)(hc:dS w I r blk off)(hr:eK w I sz xs blk (off+sz)):eK w I sz (r::xs) blk off
inductive Ci (w:Γ):(Bool->Nat->Prop)->List V->List ο->Prop
 |nil {I:Bool->Nat->Prop}:Ci w I [] []
 |cons {I:Bool->Nat->Prop} (v:V) (x:ο) (cs:List V) (xs:List ο)(hv:IR w I v x)(hr:Ci w I cs xs):Ci w I (v::cs) (x::xs)
inductive sM (w:Γ):(Bool->Nat->Prop)->V->ο->Prop
 |one {I:Bool->Nat->Prop}{v:V}{x:ο}(h:IR w I v x):sM w I v x
 |agg {I:Bool->Nat->Prop} (cs:List V) (xs:List ο)(h:Ci w I cs xs):sM w I (.agg cs) (.agg xs.toArray)
inductive sL (w:Γ):(Bool->Nat->Prop)->List (V × V)->List ad->Prop
 |nil {I:Bool->Nat->Prop}:sL w I [] []
 |cons {I:Bool->Nat->Prop} (k v:V) (es:List (V × V)) (e:ad) (l:List ad)(hk:sM w I k e.key)(hv:sM w I v e.val)(hr:sL w I es l):sL w I ((k,v)::es) (e::l)
end
theorem cell_of_heap{w w':Γ}{b o:Nat}(h:w'.heap[b]?=w.heap[b]?):w'.cell? ⟨b,o,none⟩=w.cell? ⟨b,o,none⟩:=by
 simp[World.cell?,h]
def qY(w w':Γ)(I I':Bool->Nat->Prop):Prop:=∀g k,I g k->I' g k/\w'.heap[k]?=w.heap[k]?
theorem qY.sub{w w':Γ}{I I':Bool->Nat->Prop}(h:qY w w' I I')(g:Bool):qY w w' (sub g I) (sub g I'):=λ_ k hk=>h _ k hk
mutual
theorem IR.mono{w w':Γ}{I I':Bool->Nat->Prop}{v:V}{x:ο}(H:qY w w' I I')(h:IR w I v x):IR w' I' v x:=by
 cases h with
 |bool=>exact .bool _
 |int=>exact .int _ _
 |str=>exact .str _
 |fV=>exact .fV
 |aG=>exact .aG
 |cA=>exact .cA
 |rH=>exact .rH
 |rT=>exact .rT
 |fn=>exact .fn _
 |emp g full a=>exact .emp g full a
 |bV g xs full blk off len cap sz hi hl hc hf hr=>exact .bV g xs full blk off len cap sz (H _ _ hi).1 hl hc hf (eK.mono (H.sub g) (λ_=>(H g blk hi).2) hr)
 |cR g cs blk off hi hr=>exact .cR g cs blk off (H _ _ hi).1 (dS.mono (H.sub g) (λ_=>(H g blk hi).2) hr)
 |imp g es blk entries clock l hi hm ho hp hr=>exact .imp g es blk entries clock l (H _ _ hi).1 (by rw[(H _ _ hi).2];exact hm) ho hp (sL.mono (H.sub g) hr)
theorem dS.mono{w w':Γ}{I I':Bool->Nat->Prop}{cs:List V}{blk off:Nat}(H:qY w w' I I')(hb:cs≠[]->w'.heap[blk]?=w.heap[blk]?)(h:dS w I cs blk off):dS w' I' cs blk off:=by
 cases h with
 |nil=>exact .nil
 |cons v x cs hc hv hr=>exact .cons v x cs (by rw[cell_of_heap (hb (by simp))];exact hc) (IR.mono H hv) (dS.mono H (λ_=>hb (by simp)) hr)
theorem eK.mono{w w':Γ}{I I':Bool->Nat->Prop}{sz:Nat}{xs:List (List V)}{blk off:Nat}(H:qY w w' I I')(hb:xs≠[]->w'.heap[blk]?=w.heap[blk]?)(h:eK w I sz xs blk off):eK w' I' sz xs blk off:=by
 cases h with
 |nil=>exact .nil
 |cons r xs hl hc hr=>exact .cons r xs hl (dS.mono H (λ_=>hb (by simp)) hc) (eK.mono H (λ_=>hb (by simp)) hr)
theorem Ci.mono{w w':Γ}{I I':Bool->Nat->Prop}{cs:List V}{xs:List ο}(H:qY w w' I I')(h:Ci w I cs xs):Ci w' I' cs xs:=by
 cases h with
 |nil=>exact .nil
 |cons v x cs xs hv hr=>exact .cons v x cs xs (IR.mono H hv) (Ci.mono H hr)
theorem sM.mono{w w':Γ}{I I':Bool->Nat->Prop}{v:V}{x:ο}(H:qY w w' I I')(h:sM w I v x):sM w' I' v x:=by
 cases h with
 |one h=>exact .one (IR.mono H h)
 |agg cs xs h=>exact .agg cs xs (Ci.mono H h)
theorem sL.mono{w w':Γ}{I I':Bool->Nat->Prop}{es:List (V × V)}{l:List ad}(H:qY w w' I I')(h:sL w I es l):sL w' I' es l:=by
 cases h with
 |nil=>exact .nil
 |cons k v es e l hk hv hr=>exact .cons k v es e l (sM.mono H hk) (sM.mono H hv) (sL.mono H hr)
end
structure Cx where
 w:Γ
 Z:Sg
 blk:Nat->Nat
 tot:Nat->Nat
 yP:Nat->Nat
 nT:Nat->Prop
def O.alive:O->Bool
 | .dead=>false
 |_=>true
def live(Z:Sg)(b:Nat):Prop:=∃o,Z[b]?=some o/\o.alive=true
def Cx.own(c:Cx)(k:Nat):Prop:=∃b,live c.Z b/\c.blk b=k
def Cx.bE(c:Cx)(g:Bool)(k:Nat):Prop:=k<c.w.heap.size/\¬ c.own k/\(g=false->¬ c.nT k)
mutual
inductive VR (c:Cx):V->ο->Prop
 |inl {v:V}{x:ο}(h:IR c.w c.bE v x):VR c v x
 |ref (b off:Nat)(h:b<c.Z.length):VR c (.ref b off) (.pointer (some ⟨c.blk b,off,none⟩))
 |sl (b off len:Nat) (cap:Option Nat) (cap':Nat)(h:b<c.Z.length)(hl:len<=cap')(hk:∀k,cap=some k->cap'=k)(ht:cap=none->off+cap'*c.yP b=c.tot b) :
   VR c (.sl b off len cap) (.slice (some ⟨c.blk b,off,none⟩) len cap')
 |mp (b:Nat)(h:b<c.Z.length):VR c (.mp b) (.map (some (c.blk b)))
 |fn (f:Nat) (a b:List V) (xs ys:List ο)(ha:fH c a xs)(hb:fH c b ys):VR c (.fn f a b) (.func (.func f) xs.toArray ys.toArray)
 |agg (cs:List V) (xs:List ο)(h:fH c cs xs):VR c (.agg cs) (.agg xs.toArray)
 |fR (cs:List V) (xs:List ο)(h:fH c cs xs):VR c (.fR cs) (.tuple xs.toArray)
 |A8 (t:Nat) (v:V) (x:ο)(h:VR c v x):VR c (.A8 t v) (.iface t x)
 |undef:VR c .undef undef
inductive fH (c:Cx):List V->List ο->Prop
 |nil:fH c [] []
 |cons (v:V) (x:ο) (cs:List V) (xs:List ο)(hv:VR c v x)(hr:fH c cs xs):fH c (v::cs) (x::xs)
end
structure Ext (c c':Cx):Prop where
 size:c.w.heap.size<=c'.w.heap.size
 keep:∀k,k<c.w.heap.size->¬ c.own k->c'.w.heap[k]?=c.w.heap[k]?/\¬ c'.own k
 len:c.Z.length<=c'.Z.length
 blk:∀b,b<c.Z.length->c'.blk b=c.blk b
 tot:∀b,b<c.Z.length->c'.tot b=c.tot b
 yP:∀b,b<c.Z.length->c'.yP b=c.yP b
 nT:c'.nT=c.nT
 os:c'.w.os=c.w.os
 tape:c'.w.tape=c.w.tape
 output:c'.w.output=c.w.output
theorem Ext.refl(c:Cx):Ext c c:=⟨OF _,λ_ _ h=>⟨rfl,h⟩,OF _,λ_ _=>rfl,λ_ _=>rfl,λ_ _=>rfl,rfl,rfl,rfl,rfl⟩
theorem Ext.trans{a b c:Cx}(h:Ext a b)(k:Ext b c):Ext a c:=
 ⟨e8 h.size k.size,λi hi ho=>by
   obtain⟨e,ho'⟩:=h.keep i hi ho;obtain⟨e',ho''⟩:=k.keep i (ig hi h.size) ho';exact⟨e'.trans e,ho''⟩,
  e8 h.len k.len,λi hi=>(k.blk i (ig hi h.len)).trans (h.blk i hi),λi hi=>(k.tot i (ig hi h.len)).trans (h.tot i hi),
  λi hi=>(k.yP i (ig hi h.len)).trans (h.yP i hi),k.nT.trans h.nT,k.os.trans h.os,k.tape.trans h.tape,k.output.trans h.output⟩
theorem Ext.wider{c c':Cx}(h:Ext c c'):qY c.w c'.w c.bE c'.bE:=λg k hk=>by
 obtain⟨h1,h2,h3⟩:=hk;obtain⟨e,ho⟩:=h.keep k h1 h2;exact⟨⟨ig h1 h.size,ho,λhg=>by rw[h.nT];exact h3 hg⟩,e⟩
mutual
theorem VR.mono{c c':Cx}{v:V}{x:ο}(H:Ext c c')(h:VR c v x):VR c' v x:=by
 cases h with
 |inl h=>exact .inl (IR.mono H.wider h)
 |ref b off h=>rw[<- H.blk b h];exact .ref b off (ig h H.len)
 |sl b off len cap cap' h hl hk ht=>rw[<- H.blk b h];exact .sl b off len cap cap' (ig h H.len) hl hk (λe=>by rw[H.yP b h,H.tot b h];exact ht e)
 |mp b h=>rw[<- H.blk b h];exact .mp b (ig h H.len)
 |fn f a b xs ys ha hb=>exact .fn f a b xs ys (fH.mono H ha) (fH.mono H hb)
 |agg cs xs h=>exact .agg cs xs (fH.mono H h)
 |fR cs xs h=>exact .fR cs xs (fH.mono H h)
 |A8 t v x h=>exact .A8 t v x (VR.mono H h)
 |undef=>exact .undef
theorem fH.mono{c c':Cx}{v:List V}{x:List ο}(H:Ext c c')(h:fH c v x):fH c' v x:=by
 cases h with
 |nil=>exact .nil
 |cons v x cs xs hv hr=>exact .cons v x cs xs (VR.mono H hv) (fH.mono H hr)
end
inductive jE (c:Cx):List (V × V)->List ad->Prop
 |nil:jE c [] []
 |cons (k v:V) (es:List (V × V)) (e:ad) (l:List ad)(hk:sM c.w c.bE k e.key)(hv:VR c v e.val)(hr:jE c es l):jE c ((k,v)::es) (e::l)
theorem jE.mono{c c':Cx}{es:List (V × V)}{l:List ad}(H:Ext c c')(h:jE c es l):jE c' es l:=by
 induction h with
 |nil=>exact .nil
 |cons k v es e l hk hv hr ih=>exact .cons k v es e l (sM.mono H.wider hk) (VR.mono H hv) ih
def uN(E:Env)(c:Cx)(b:Nat):O->Prop
 | .dead=>True
 | .cells t cs ex=>∃arr,c.w.heap[c.blk b]?=some (.cells arr t (0,0))/\arr.size=c.tot b/\(∃i,E.ty t=some i/\c.yP b=i.size)/\cs.length<=arr.size/\(ex=true->cs.length=arr.size)/\cs.all V.aZ=true /\
   ∀(j:Nat)(v:V),cs[j]?=some v->∃x,arr[j]?=some x/\VR c v x
 | .map es=>∃entries clock,c.w.heap[c.blk b]?=some (.map entries clock)/\Ye entries clock/\∃l:List ad,l.Perm entries.toList/\jE c es l
 | .JK s pos=>∃bs,bytes bs=s/\c.w.heap[c.blk b]?=some (.stringIter bs pos)
 | .tF left cur=>(left=[]/\cur=none/\c.w.heap[c.blk b]?=some (.mapIter none 0 #[] 0))\/∃(g:Bool) (m:Nat) (en:Array ad) (clock:Nat) (seen:Array Nat) (l:List ad),
   c.w.heap[c.blk b]?=some (.mapIter (some m) clock seen clock)/\c.bE g m/\c.w.heap[m]?=some (.map en clock)/\Ye en clock/\l.Perm (en.toList.filter λe=>!seen.contains e.born)/\jE c left l /\
   ∀e,cur=some e->∃x∈en.toList,(∃seen':Array Nat,seen=seen'.push x.born)/\sM c.w c.bE e.1 x.key/\VR c e.2 x.val
theorem uN.mono{E:Env}{c c':Cx}{b:Nat}{o:O}(H:Ext c c')(hb:b<c.Z.length)(hk:c'.w.heap[c.blk b]?=c.w.heap[c.blk b]?)(h:uN E c b o):uN E c' b o:=by
 have e:=H.blk b hb;cases o with
 |dead=>exact gS
 |cells t cs ex=>
  obtain⟨arr,h1,h2,h3,h4,h5,h7,h6⟩:=h;exact⟨arr,by rw[e,hk];exact h1,by rw[H.tot b hb];exact h2,by rw[H.yP b hb];exact h3,h4,h5,h7,λj v hj=>let ⟨x,a,r⟩:=h6 j v hj; ⟨x,a,r.mono H⟩⟩
 |map es=>
  obtain⟨en,cl,h1,ho,l,hp,h2⟩:=h;exact⟨en,cl,by rw[e,hk];exact h1,ho,l,hp,h2.mono H⟩
 |JK s pos=>
  obtain⟨bs,h1,h2⟩:=h;exact⟨bs,h1,by rw[e,hk];exact h2⟩
 |tF left cur=>
  rcases h with⟨h1,h0,h2⟩ | ⟨g,m,en,cl,seen,l,h1,h2,h3,h4,h5,h6,h7⟩
  ·exact .inl ⟨h1,h0,by rw[e,hk];exact h2⟩
  ·obtain⟨k1,k2⟩:=H.wider g m h2
   exact .inr ⟨g,m,en,cl,seen,l,by rw[e,hk];exact h1,k1,by rw[k2];exact h3,h4,h5,h6.mono H,λe he=>by
    obtain⟨x,g1,g2,g3,g4⟩:=h7 e he;exact⟨x,g1,g2,sM.mono H.wider g3,g4.mono H⟩⟩
structure SR (E:Env) (c:Cx):Prop where
 inj:∀b b',live c.Z b->live c.Z b'->c.blk b=c.blk b'->b=b'
 obj:∀b o,c.Z[b]?=some o->uN E c b o
 nT:∀b,live c.Z b->¬ c.nT (c.blk b)
 jF:∀k,c.nT k->k<c.w.heap.size
 gl:∀k p,E.gl k=some p->∃o,c.w.heap[k]?=some o/\p o/\¬ c.own k
theorem qG{E:Env}{c c':Cx}(h:Ext c c')(hg:∀k p,E.gl k=some p->∃o,c.w.heap[k]?=some o/\p o/\¬ c.own k):∀k p,E.gl k=some p->∃o,c'.w.heap[k]?=some o/\p o/\¬ c'.own k:=λk p hk=>by
 obtain⟨o,h1,hp,h2⟩:=hg k p hk
 have hlt:k<c.w.heap.size:=by
  rcases cr k c.w.heap.size with g | g
  ·exact g
  ·rw[n9 g]at h1;cases h1
 obtain⟨h3,h4⟩:=h.keep k hlt h2;exact⟨o,h3.trans h1,hp,h4⟩
theorem eC{Z:Sg}{b:Nat}(h:live Z b):b<Z.length:=by
 obtain⟨o,ho,_⟩:=h;exact(AI.1 ho).1
theorem jI{w:Γ}{k:Nat}{o:Obj}(h:w.heap[k]?=some o):k<w.heap.size:=by
 rcases cr k w.heap.size with g | g
 ·exact g
 ·rw[n9 g]at h;cases h
theorem SR.lt{E:Env}{c:Cx}(h:SR E c){b:Nat}(hl:live c.Z b):c.blk b<c.w.heap.size:=by
 obtain⟨o,ho,hd⟩:=hl;have:=h.obj b o ho;cases o with
 |dead=>cases hd
 |cells t cs ex=>obtain⟨arr,h1,_⟩:=this;exact jI h1
 |map es=>obtain⟨en,cl,h1,_⟩:=this;exact jI h1
 |JK s pos=>obtain⟨bs,_,h1⟩:=this;exact jI h1
 |tF left cur=>
  rcases this with⟨_,_,h1⟩ | ⟨_,_,_,_,_,_,h1,_⟩
  ·exact jI h1
  ·exact jI h1
theorem SR.vC{E:Env}{c:Cx}(h:SR E c){k:Nat}(hk:c.own k):k<c.w.heap.size:=by
 obtain⟨b,hl,rfl⟩:=hk;exact h.lt hl
def Cx.alloc(c : Cx)(ob : Obj)(o : O)(n z : Nat) : Cx :=
  { c with w := c.w.alloc ob, Z := c.Z ++ [o], blk := fun b => if b = c.Z.length then c.w.heap.size else c.blk b,
           tot := fun b => if b = c.Z.length then n else c.tot b, yP := fun b => if b = c.Z.length then z else c.yP b }
theorem iG{Z:Sg}{o:O}{b:Nat}(h:live (Z++[o]) b):live Z b\/(b=Z.length/\o.alive=true):=by
 obtain⟨o',ho,hd⟩:=h;rw[List.getElem?_append]at ho;split at ho
 ·exact .inl ⟨o',ho,hd⟩
 ·rename_i hb;rcases cr (b-Z.length) 1 with h1 | h1
  ·have:b=Z.length:=by omega
   subst this;simp at ho;subst ho;exact .inr ⟨rfl,hd⟩
  ·rw[ir (by simpa using h1)]at ho;cases ho
theorem Cx.gJ{E:Env}{c:Cx}(h:SR E c)(ob:Obj)(o:O)(n z:Nat):Ext c (c.alloc ob o n z) where
 size:=by simp[Cx.alloc]
 keep:=λk hk ho=>by
  refine⟨Go.RowKit.Below.heap_alloc _ _ _ hk,λ⟨b,hl,hb⟩=>?_⟩;rcases iG hl with hl | ⟨rfl,_⟩
  ·refine ho ⟨b,hl,?_⟩;have:=eC hl;simpa [Cx.alloc,aw this]using hb
  ·simp[Cx.alloc]at hb;omega
 len:=by simp[Cx.alloc]
 blk:=λb hb=>by simp[Cx.alloc,aw hb]
 tot:=λb hb=>by simp[Cx.alloc,aw hb]
 yP:=λb hb=>by simp[Cx.alloc,aw hb]
 nT:=rfl
 os:=rfl
 tape:=rfl
 output:=rfl
theorem Cx.sI{E:Env}{c:Cx}(h:SR E c)(ob:Obj)(o:O)(n z:Nat)(ho:uN E (c.alloc ob o n z) c.Z.length o):SR E (c.alloc ob o n z) where
 inj:=λb b' hl hl' e=>by
  rcases iG hl with hl | ⟨rfl,_⟩ <;> rcases iG hl' with hl' | ⟨rfl,_⟩
  ·have:=eC hl;have:=eC hl';refine h.inj b b' hl hl' ?_;simpa [Cx.alloc,aw (eC hl),aw (eC hl')]using e
  ·have:=h.lt hl;simp[Cx.alloc,aw (eC hl)]at e;omega
  ·have:=h.lt hl';simp[Cx.alloc,aw (eC hl')]at e;omega
  ·rfl
 obj:=λb o' hb=>by
  by_cases hlt:b<c.Z.length
  ·have hb':c.Z[b]?=some o':=by simpa [Cx.alloc,List.getElem?_append_left hlt]using hb
   by_cases hl:live c.Z b
   ·refine(h.obj b o' hb').mono (Cx.gJ h ob o n z) hlt ?_;exact Go.RowKit.Below.heap_alloc _ _ _ (h.lt hl)
   ·cases o' with
    |dead=>exact gS
    |_=>exact(hl ⟨_,hb',rfl⟩).elim
  ·have:b=c.Z.length:=by
    have:=(AI.1 hb).1;simp[Cx.alloc]at this;omega
   subst this;simp[Cx.alloc]at hb;subst hb;exact ho
 nT:=λb hl=>by
  rcases iG hl with hl | ⟨rfl,_⟩
  ·have:=h.nT b hl;simpa [Cx.alloc,aw (eC hl)]using this
  ·intro ha;have:=h.jF _ ha;simp[Cx.alloc]at this
 jF:=λk hk=>by
  have:=h.jF k hk;simp[Cx.alloc];omega
 gl:=qG (Cx.gJ h ob o n z) h.gl
def Cx.put(c:Cx)(b:Nat)(ob:Obj)(o:O):Cx:=
 { c with w:={ c.w with heap:=c.w.heap.setIfInBounds (c.blk b) ob },Z:=c.Z.set b o }
theorem zZ{Z:Sg}{o:O}{b b':Nat}(hb:live Z b)(h:live (Z.set b o) b'):live Z b':=by
 obtain⟨o',ho,hd⟩:=h;by_cases e:b=b'
 ·subst e;exact hb
 ·rw[aa e]at ho;exact⟨o',ho,hd⟩
theorem Cx.mU{c:Cx}{b:Nat}(hl:live c.Z b)(ob:Obj)(o:O):Ext c (c.put b ob o) where
 size:=by simp[Cx.put]
 keep:=λk hk ho=>by
  refine⟨?_,λ⟨b',hl',hb⟩=>ho ⟨b',zZ hl hl',hb⟩⟩;have:c.blk b≠k:=λe=>ho ⟨b,hl,e⟩;simp[Cx.put,this]
 len:=by simp[Cx.put]
 blk:=λ_ _=>rfl
 tot:=λ_ _=>rfl
 yP:=λ_ _=>rfl
 nT:=rfl
 os:=rfl
 tape:=rfl
 output:=rfl
theorem Cx.uZ{E:Env}{c:Cx}(h:SR E c){b:Nat}(hl:live c.Z b)(ob:Obj)(o:O)(ho:uN E (c.put b ob o) b o):SR E (c.put b ob o) where
 inj:=λb1 b2 h1 h2 e=>h.inj b1 b2 (zZ hl h1) (zZ hl h2) e
 obj:=λb' o' hb=>by
  by_cases e:b=b'
  ·subst e;have:b<c.Z.length:=eC hl;simp[Cx.put,this]at hb;subst hb;exact ho
  ·have hb':c.Z[b']?=some o':=by simpa [Cx.put,List.getElem?_set_ne e]using hb
   by_cases hl':live c.Z b'
   ·refine(h.obj b' o' hb').mono (Cx.mU hl ob o) (eC hl') ?_;have:c.blk b≠c.blk b':=λe'=>e (h.inj b b' hl hl' e');simp[Cx.put,this]
   ·cases o' with
    |dead=>exact gS
    |_=>exact(hl' ⟨_,hb',rfl⟩).elim
 nT:=λb' hl'=>h.nT b' (zZ hl hl')
 jF:=λk hk=>by
  have:=h.jF k hk;simpa [Cx.put]using this
 gl:=qG (Cx.mU hl ob o) h.gl
def Cx.kill(c:Cx)(b:Nat):Cx:={ c with Z:=c.Z.set b .dead }
theorem gI{Z:Sg}{b b':Nat}(h:live (Z.set b .dead) b'):live Z b'/\b'≠b:=by
 obtain⟨o',ho,hd⟩:=h;by_cases e:b=b'
 ·subst e;rw[List.getElem?_set]at ho;split at ho
  ·split at ho
   ·cases ho;cases hd
   ·cases ho
  ·exact absurd rfl (by assumption)
 ·rw[aa e]at ho;exact⟨⟨o',ho,hd⟩,λx=>e x.symm⟩
theorem Cx.vL(c:Cx)(b:Nat):Ext c (c.kill b) where
 size:=OF _
 keep:=λ_ _ ho=>⟨rfl,λ⟨b',hl',hb⟩=>ho ⟨b',(gI hl').1,hb⟩⟩
 len:=by simp[Cx.kill]
 blk:=λ_ _=>rfl
 tot:=λ_ _=>rfl
 yP:=λ_ _=>rfl
 nT:=rfl
 os:=rfl
 tape:=rfl
 output:=rfl
theorem Cx.Mw{E:Env}{c:Cx}(h:SR E c)(b:Nat):SR E (c.kill b) where
 inj:=λb1 b2 h1 h2 e=>h.inj b1 b2 (gI h1).1 (gI h2).1 e
 obj:=λb' o' hb=>by
  by_cases hl:live (c.Z.set b .dead) b'
  ·have hb':c.Z[b']?=some o':=by
    have:=(gI hl).2;rw[<- aa (λe=>this e.symm)];exact hb
   exact(h.obj b' o' hb').mono (c.vL b) (eC (gI hl).1) rfl
  ·cases o' with
   |dead=>exact gS
   |_=>exact(hl ⟨_,hb,rfl⟩).elim
 nT:=λb' hl'=>h.nT b' (gI hl').1
 jF:=h.jF
 gl:=qG (c.vL b) h.gl
def Cx.drew(c:Cx):Cx:={ c with w:={ c.w with drawn:=c.w.drawn+1 } }
theorem Cx.kO(c:Cx):Ext c c.drew:=⟨OF _,λ_ _ h=>⟨rfl,h⟩,OF _,λ_ _=>rfl,λ_ _=>rfl,λ_ _=>rfl,rfl,rfl,rfl,rfl⟩
theorem Cx.wS{E:Env}{c:Cx}(h:SR E c):SR E c.drew where
 inj:=h.inj
 obj:=λb o hb=>by
  by_cases hl:live c.Z b
  ·exact(h.obj b o hb).mono c.kO (eC hl) rfl
  ·cases o with
   |dead=>exact gS
   |_=>exact(hl ⟨_,hb,rfl⟩).elim
 nT:=h.nT
 jF:=h.jF
 gl:=qG c.kO h.gl
section
section inv
variable {c:Cx}{x:ο}
theorem VR.gO{b:Bool}(h:VR c (.bool b) x):x=.bool b:=by cases h with | inl h=>cases h;rfl
theorem VR.eG{k:fz}{n:Int}(h:VR c (.int k n) x):x=.int k n:=by cases h with | inl h=>cases h;rfl
theorem VR.eX{s:List Nat}(h:VR c (.str s) x):∃b,x=.string b/\bytes b=s:=by cases h with | inl h=>cases h;exact⟨_,rfl,rfl⟩
theorem VR.qB(h:VR c .fV x):x=.pointer none:=by cases h with | inl h=>cases h;rfl
theorem VR.iF(h:VR c .aG x):x=.slice none 0 0:=by cases h with | inl h=>cases h;rfl
theorem VR.mX(h:VR c .cA x):x=.map none:=by cases h with | inl h=>cases h;rfl
theorem VR.zS(h:VR c .rH x):x=.nilFunc:=by cases h with | inl h=>cases h;rfl
theorem VR.zR(h:VR c .rT x):x=.nilIface:=by cases h with | inl h=>cases h;rfl
theorem VR.iV{b off:Nat}(h:VR c (.ref b off) x):x=.pointer (some ⟨c.blk b,off,none⟩)/\b<c.Z.length:=by
 cases h with | inl h=>cases h | ref b off h=>exact⟨rfl,h⟩
theorem VR.yC{b:Nat}(h:VR c (.mp b) x):x=.map (some (c.blk b))/\b<c.Z.length:=by
 cases h with | inl h=>cases h | mp b h=>exact⟨rfl,h⟩
theorem VR.mR{b off len:Nat}{cap:Option Nat}(h:VR c (.sl b off len cap) x) :
  ∃cap',x=.slice (some ⟨c.blk b,off,none⟩) len cap'/\b<c.Z.length/\len<=cap'/\(∀k,cap=some k->cap'=k)/\(cap=none->off+cap'*c.yP b=c.tot b):=by
 cases h with | inl h=>cases h | sl b off len cap cap' h hl hk ht=>exact⟨cap',rfl,h,hl,hk,ht⟩
theorem VR.nZ{g:Bool}{xs:List (List V)}{full:Bool}(h:VR c (.bV g xs full) x) :
  ∃blk off sp cap sz,x=.slice (some ⟨blk,off,sp⟩) xs.length cap/\((sp=none/\c.bE g blk)\/(xs=[]/\cap=0))/\xs.length<=cap/\(full=true->cap=xs.length)/\eK c.w (sub g c.bE) sz xs blk off:=by
 cases h with | inl h=>cases h with
  |bV _ _ _ blk off len cap sz hi hl hc hf hr=>subst hl;exact⟨blk,off,none,cap,sz,rfl,.inl ⟨rfl,hi⟩,hc,hf,hr⟩
  |emp _ _ a=>exact⟨a.block,a.off,a.spot,0,0,rfl,.inr ⟨rfl,rfl⟩,OF _,λ_=>rfl,.nil⟩
theorem VR.z_{g:Bool}{cs:List V}(h:VR c (.cR g cs) x):∃blk off,x=.pointer (some ⟨blk,off,none⟩)/\c.bE g blk/\dS c.w (sub g c.bE) cs blk off:=by
 cases h with | inl h=>cases h with | cR _ _ blk off hi hr=>exact⟨blk,off,rfl,hi,hr⟩
theorem VR.tN{g:Bool}{es:List (V × V)}(h:VR c (.imp g es) x) :
  ∃blk entries clock l,x=.map (some blk)/\c.bE g blk/\c.w.heap[blk]?=some (.map entries clock)/\Ye entries clock/\l.Perm entries.toList/\sL c.w (sub g c.bE) es l:=by
 cases h with | inl h=>cases h with | imp _ _ blk entries clock l hi hm ho hp hr=>exact⟨blk,entries,clock,l,rfl,hi,hm,ho,hp,hr⟩
theorem VR.uB{cs:List V}(h:VR c (.agg cs) x):∃xs:List ο,x=.agg xs.toArray/\fH c cs xs:=by
 cases h with | inl h=>cases h | agg cs xs h=>exact⟨xs,rfl,h⟩
theorem VR.Gu{cs:List V}(h:VR c (.fR cs) x):∃xs:List ο,x=.tuple xs.toArray/\fH c cs xs:=by
 cases h with | inl h=>cases h | fR cs xs h=>exact⟨xs,rfl,h⟩
theorem VR.G_{t:Nat}{v:V}(h:VR c (.A8 t v) x):∃y,x=.iface t y/\VR c v y:=by
 cases h with | inl h=>cases h | A8 t v y h=>exact⟨y,rfl,h⟩
theorem VR.A_{f:Nat}{a b:List V}(h:VR c (.fn f a b) x):∃xs ys:List ο,x=.func (.func f) xs.toArray ys.toArray/\fH c a xs/\fH c b ys:=by
 cases h with
 |inl h=>cases h;exact⟨[],[],rfl,.nil,.nil⟩
 |fn f a b xs ys ha hb=>exact⟨xs,ys,rfl,ha,hb⟩
end inv
theorem fH.len{c:Cx}{cs:List V}{xs:List ο}(h:fH c cs xs):cs.length=xs.length:=by
 induction cs generalizing xs with
 |nil=>cases h;rfl
 |cons v cs ih=>cases h with | cons v x cs xs hv hr=>simp[ih hr]
theorem fH.get{c:Cx}{cs:List V}{xs:List ο}(h:fH c cs xs):∀(j:Nat)(v:V),cs[j]?=some v->∃x,xs[j]?=some x/\VR c v x:=by
 induction cs generalizing xs with
 |nil=>intro j v hj;simp at hj
 |cons v cs ih=>
  cases h with | cons v x cs xs hv hr=>
  intro j u hj;cases j with
  |zero=>simp at hj;subst hj;exact⟨x,rfl,hv⟩
  |succ j=>exact ih hr j u (by simpa using hj)
theorem fH.rD{c:Cx}:∀{cs:List V}{xs:List ο},cs.length=xs.length->(∀(j:Nat)(v:V),cs[j]?=some v->∃x,xs[j]?=some x/\VR c v x)->fH c cs xs
 | [],[],_,_=>.nil
 |v::cs,x::xs,hl,h=>by
  obtain⟨y,hy,hv⟩:=h 0 v rfl;simp at hy;subst hy;exact .cons v x cs xs hv (fH.rD (by simpa using hl) λj u hj=>by simpa using h (j+1) u (by simpa using hj))
theorem fH.append{c:Cx}{a b:List V}{xs ys:List ο}(h:fH c a xs)(k:fH c b ys):fH c (a++b) (xs++ys):=by
 induction a generalizing xs with
 |nil=>cases h;exact k
 |cons v a ih=>cases h with | cons v x cs xs hv hr=>exact .cons _ _ _ _ hv (ih hr)
theorem fH.take{c:Cx}{a:List V}{xs:List ο}(h:fH c a xs)(n:Nat):fH c (a.take n) (xs.take n):=by
 induction a generalizing xs n with
 |nil=>cases h;simp;exact .nil
 |cons v a ih=>cases h with | cons v x cs xs hv hr=>cases n with
  |zero=>simp;exact .nil
  |succ n=>simp;exact .cons _ _ _ _ hv (ih hr n)
theorem fH.drop{c:Cx}{a:List V}{xs:List ο}(h:fH c a xs)(n:Nat):fH c (a.drop n) (xs.drop n):=by
 induction a generalizing xs n with
 |nil=>cases h;simp;exact .nil
 |cons v a ih=>cases h with | cons v x cs xs hv hr=>cases n with
  |zero=>simp;exact .cons _ _ _ _ hv hr
  |succ n=>simp;exact ih hr n
theorem fH.set{c:Cx}{a:List V}{xs:List ο}(h:fH c a xs){v:V}{x:ο}(hv:VR c v x)(n:Nat):fH c (a.set n v) (xs.set n x):=by
 induction a generalizing xs n with
 |nil=>cases h;simp;exact .nil
 |cons u a ih=>cases h with | cons u y cs xs hu hr=>cases n with
  |zero=>simp;exact .cons _ _ _ _ hv hr
  |succ n=>simp;exact .cons _ _ _ _ hu (ih hr n)
theorem fH.replicate(c:Cx)(n:Nat):fH c (List.replicate n .undef) (List.replicate n Go.undef):=by
 induction n with
 |zero=>exact .nil
 |succ n ih=>exact .cons _ _ _ _ .undef ih
theorem VR.cells{c:Cx}{v:V}{x:ο}(h:VR c v x):fH c v.cells x.cells.toList:=by
 have one:∀{v:V}{x:ο},VR c v x->fH c [v] [x]:=λh=>.cons _ _ _ _ h .nil;cases h with
 |agg cs xs h=>simpa [V.cells,Value.cells]using h
 |inl h=>have h':=h;cases h <;> exact one (.inl h')
 |ref b off h=>exact one (.ref b off h)
 |sl b off len cap cap' h hl hk ht=>exact one (.sl b off len cap cap' h hl hk ht)
 |mp b h=>exact one (.mp b h)
 |fn f a b xs ys ha hb=>exact one (.fn f a b xs ys ha hb)
 |fR cs xs h=>exact one (.fR cs xs h)
 |A8 t v x h=>exact one (.A8 t v x h)
 |undef=>exact one .undef
theorem VR.aZ{c:Cx}{v:V}{x:ο}(h:VR c v x)(hk:v.aZ=true):x.oneCell'=true:=by
 cases h with
 |agg cs xs h=>cases hk
 |fR cs xs h=>cases hk
 |undef=>cases hk
 |inl h=>cases h <;> rfl
 |_=>rfl
theorem fH.lQ{c:Cx}{cs:List V}{xs:List ο}(h:fH c cs xs)(hk:cs.all V.aZ=true):∀x∈xs,x.oneCell'=true:=by
 induction cs generalizing xs with
 |nil=>cases h;simp
 |cons v cs ih=>
  cases h with | cons v x cs xs hv hr=>
  simp only[iy,ak]at hk;intro y hy;rcases IN.1 hy with rfl | hy
  ·exact hv.aZ hk.1
  ·exact ih hr hk.2 y hy
theorem IR.aZ{w:Γ}{I:Bool->Nat->Prop}{v:V}{x:ο}(h:IR w I v x):v.aZ=true:=by cases h <;> rfl
theorem Ci.lQ{w:Γ}{I:Bool->Nat->Prop}{cs:List V}{xs:List ο}(h:Ci w I cs xs):cs.all V.aZ=true:=by
 induction cs generalizing xs with
 |nil=>rfl
 |cons v cs ih=>cases h with | cons v x cs xs hv hr=>simp[hv.aZ,ih hr]
theorem sM.lQ{w:Γ}{I:Bool->Nat->Prop}{v:V}{x:ο}(h:sM w I v x):v.cells.all V.aZ=true:=by
 cases h with
 |one h=>cases h <;> rfl
 |agg cs xs h=>exact h.lQ
theorem DK{c:Cx}{g h:Bool}{k:Nat}(hk:c.bE (g&&h) k):c.bE h k:=⟨hk.1,hk.2.1,λe=>hk.2.2 (by simp[e])⟩
theorem wC(c:Cx)(g:Bool):qY c.w c.w (sub g c.bE) c.bE:=λ_ _ hk=>⟨DK hk,rfl⟩
theorem Ci.vrs{c:Cx}{cs:List V}{xs:List ο}(h:Ci c.w c.bE cs xs):fH c cs xs:=by
 induction cs generalizing xs with
 |nil=>cases h;exact .nil
 |cons v cs ih=>cases h with | cons v x cs xs hv hr=>exact .cons _ _ _ _ (.inl hv) (ih hr)
theorem sM.vr{c:Cx}{v:V}{x:ο}(h:sM c.w c.bE v x):VR c v x:=by
 cases h with
 |one h=>exact .inl h
 |agg cs xs h=>exact .agg cs xs h.vrs
theorem dS.get{w:Γ}{I:Bool->Nat->Prop}{cs:List V}{blk off:Nat}(h:dS w I cs blk off):∀(j:Nat)(v:V),cs[j]?=some v->∃x,w.cell? ⟨blk,off+j,none⟩=some x/\IR w I v x:=by
 induction cs generalizing off with
 |nil=>intro j v hj;simp at hj
 |cons v cs ih=>
  cases h with | cons v x cs hc hv hr=>
  intro j u hj;cases j with
  |zero=>simp at hj;subst hj;exact⟨x,hc,hv⟩
  |succ j=>
   obtain⟨y,hy,hu⟩:=ih hr j u (by simpa using hj);exact⟨y,by rw[show off+(j+1)=off+1+j by omega];exact hy,hu⟩
theorem dS.rD{w:Γ}{I:Bool->Nat->Prop}:∀{cs:List V}{blk off:Nat},(∀(j:Nat)(v:V),cs[j]?=some v->∃x,w.cell? ⟨blk,off+j,none⟩=some x/\IR w I v x)->dS w I cs blk off
 | [],_,_,_=>.nil
 |v::cs,blk,off,h=>by
  obtain⟨x,hx,hv⟩:=h 0 v rfl
  exact .cons v x cs hx hv (dS.rD λj u hj=>by
   obtain⟨y,hy,hu⟩:=h (j+1) u (by simpa using hj);exact⟨y,by rw[show off+1+j=off+(j+1) by omega];exact hy,hu⟩)
theorem dS.drop{w:Γ}{I:Bool->Nat->Prop}{cs:List V}{blk off:Nat}(h:dS w I cs blk off)(n:Nat):dS w I (cs.drop n) blk (off+n):=
 .rD λj v hj=>by
  obtain⟨x,hx,hv⟩:=h.get (n+j) v (by simpa using hj);exact⟨x,by rw[show off+n+j=off+(n+j) by omega];exact hx,hv⟩
theorem dS.vals{w:Γ}{I:Bool->Nat->Prop}{cs:List V}{blk off:Nat}(h:dS w I cs blk off) :
  ∃xs:List ο,Ci w I cs xs/\∀(j:Nat)(x:ο),xs[j]?=some x->w.cell? ⟨blk,off+j,none⟩=some x:=by
 induction cs generalizing off with
 |nil=>exact⟨[],.nil,by intro j x hj;simp at hj⟩
 |cons v cs ih=>
  cases h with | cons v x cs hc hv hr=>
  obtain⟨xs,h1,h2⟩:=ih hr;refine⟨x::xs,.cons v x cs xs hv h1,λj y hj=>?_⟩;cases j with
  |zero=>simp at hj;subst hj;exact hc
  |succ j=>rw[show off+(j+1)=off+1+j by omega];exact h2 j y (by simpa using hj)
theorem uN.jC{E:Env}{c:Cx}{b t:Nat}{cs:List V}{ex:Bool}(h:uN E c b (.cells t cs ex)) :
  ∃arr,c.w.heap[c.blk b]?=some (.cells arr t (0,0))/\arr.size=c.tot b/\(∃i,E.ty t=some i/\c.yP b=i.size)/\cs.length<=arr.size/\(ex=true->cs.length=arr.size) /\
   fH c cs (arr.toList.take cs.length)/\cs.all V.aZ=true:=by
 obtain⟨arr,h1,h2,h3,h4,h5,h7,h6⟩:=h;refine⟨arr,h1,h2,h3,h4,h5,fH.rD (by simp;omega) (λj v hj=>?_),h7⟩;obtain⟨x,hx,hv⟩:=h6 j v hj;have:j<cs.length:=(AI.1 hj).1;exact⟨x,by simp[this,hx],hv⟩
theorem uN.vV{E:Env}{c:Cx}{b t:Nat}{cs:List V}{ex:Bool}{arr:Array ο}(h1:c.w.heap[c.blk b]?=some (.cells arr t (0,0)))(h2:arr.size=c.tot b)(h3:∃i,E.ty t=some i/\c.yP b=i.size)
  (h5:ex=true->cs.length=arr.size){xs ys:List ο}(ha:arr.toList=xs++ys)(hv:fH c cs xs)(hok:cs.all V.aZ=true):uN E c b (.cells t cs ex):=by
 have hl:=hv.len;have hs:arr.size=xs.length+ys.length:=by rw[<- jc,ha];simp
 refine⟨arr,h1,h2,h3,by omega,h5,hok,λj v hj=>?_⟩;obtain⟨x,hx,hr⟩:=hv.get j v hj;refine⟨x,?_,hr⟩;have:j<xs.length:=(AI.1 hx).1;rw[<- fq,ha,au this];exact hx
def pI(d:TypeDesc):Kd->Prop
 | .bool=>d=.bool
 | .int k=>d=.int k
 | .str=>d=.string
 | .ptr e=>d=.pointer e
 | .sl e=>d=.slice e
 | .arr n e=>d=.array n e
 | .map k e=>d=.map k e
 | .jL fs=>∃a:Array Field,d=.struct a/\a.toList.map (λf=>(f.offset,f.type))=fs
 | .func=>∃p r v,d=.func p r v
 | .A8=>∃m,d=.interface m
 | .other=>d=.unsafePointer
structure xB (P:ar) (t:Nat) (i:Ty):Prop where
 info:∃inf,P.info? t=some inf/\inf.size=i.size/\inf.bytes=i.bytes/\∃z,inf.zero=some z/\z.cells.size=i.size/\∀w I,sM w I i.zero z
 kd:∃d,P.underlying t=some d/\pI d i.kd
 Yi:i.zero.cells.length=i.size
theorem run_typeInfo{P:ar}{t:Nat}{inf:TypeInfo}(h:P.info? t=some inf)(w:Γ):(typeInfo t).run P w=.ok inf w:=by simp[typeInfo,h]
theorem xB.size{P:ar}{t:Nat}{i:Ty}(h:xB P t i)(w:Γ):(sizeOf t).run P w=.ok i.size w:=by
 obtain⟨inf,h1,h2,_⟩:=h.info;simp[sizeOf,run_typeInfo h1,h2]
theorem xB.zero{P:ar}{t:Nat}{i:Ty}(h:xB P t i):∃z,(∀w,(zeroValue t).run P w=.ok z w)/\(∀w I,sM w I i.zero z)/\z.cells.size=i.size:=by
 obtain⟨inf,h1,_,_,z,h4,h6,h5⟩:=h.info;exact⟨z,λw=>by simp[zeroValue,run_typeInfo h1,h4],h5,h6⟩
theorem xB.isAgg{P:ar}{t:Nat}{i:Ty}(h:xB P t i)(w:Γ):(Go.isAgg t).run P w=.ok (Ax.isAgg i.kd) w:=by
 obtain⟨d,h1,h2⟩:=h.kd;simp only[Go.isAgg,υ,ξ h1,ν]
 cases hk:i.kd <;> rw[hk]at h2 <;> simp only[pI]at h2 <;> first
  |(subst h2;rfl)
  |(obtain⟨a,rfl,_⟩:=h2;rfl)
  |(obtain⟨a,b,c,rfl⟩:=h2;rfl)
  |(obtain⟨a,rfl⟩:=h2;rfl)
theorem vF{c:Cx}{x:ο}{v:V}(h:bI x=some v):IR c.w c.bE v x:=by
 cases x <;> simp only[bI]at h <;> first
  |(cases h;done)
  |(cases h;first | exact .bool _ | exact .int _ _ | exact .str _ | exact .rH | exact .rT)
  |skip
 ·rename_i a;cases a <;> simp at h;subst h;exact .fV
 ·rename_i a l k;cases a <;> cases l <;> cases k <;> simp at h;subst h;exact .aG
 ·rename_i a;cases a <;> simp at h;subst h;exact .cA
theorem vE{c:Cx}:∀{xs:List ο}{l:List V},ofValues xs=some l->fH c l xs
 | [],l,h=>by simp[ofValues]at h;subst h;exact .nil
 |x::r,l,h=>by
  simp only[ofValues]at h;split at h
  ·rename_i v l' h1 h2;cases h;exact .cons _ _ _ _ (.inl (vF h1)) (vE h2)
  ·cases h
theorem ED{c:Cx}{x:ο}{v:V}(h:ofValue x=some v):VR c v x:=by
 unfold ofValue at h;split at h
 ·rename_i cs;split at h
  ·rename_i l hl;cases h;have:=VR.agg l cs.toList (vE (c:=c) hl);simpa using this
  ·cases h
 ·exact .inl (vF h)
theorem ot{a b:Nat}(h:ca a b=true):a=b:=jb h
theorem ov{a b:Nat}(h:ca a b=false):a≠b:=n8 h
theorem Jn{a b:Nat}(h:i5 a b=true):a<b:=by simpa [Nat.blt_eq]using h
theorem Bg{a b:Nat}(h:i5 a b=false):¬ a<b:=λg=>by
 have:i5 a b=true:=by simpa [Nat.blt_eq]using g
 rw[h]at this;cases this
theorem FT.vP(t:Nat):FT.leaf.get t=.undef:=rfl
theorem FT.qH(v:V)(l r:FT)(t:Nat):(FT.node v l r).get t=match ca t 0 with
  |true=>v
  |false=>match ca (t % 2) 1 with
   |true=>l.get (t / 2)
   |false=>r.get (t / 2-1):=rfl
theorem FT.Qd(v:V)(k t:Nat):FT.put v (k+1) .leaf t=match ca t 0 with
  |true=>.node v .leaf .leaf
  |false=>match ca (t % 2) 1 with
   |true=>.node .undef (FT.put v k .leaf (t / 2)) .leaf
   |false=>.node .undef .leaf (FT.put v k .leaf (t / 2-1)):=rfl
theorem FT.Qc(v u:V)(l r:FT)(k t:Nat):FT.put v (k+1) (.node u l r) t=match ca t 0 with
  |true=>.node v l r
  |false=>match ca (t % 2) 1 with
   |true=>.node u (FT.put v k l (t / 2)) r
   |false=>.node u l (FT.put v k r (t / 2-1)):=rfl
theorem FT.aJ(v:V):∀(k:Nat)(f:FT)(t t':Nat),t<k->(FT.put v k f t).get t'=if t'=t then v else f.get t'
 |0,f,t,t',h=>by omega
 |k+1,f,t,t',h=>by
  have ih:=FT.aJ v k
  have e0:∀u,(FT.node .undef .leaf .leaf).get u=(FT.leaf).get u:=by
   intro u;simp only[FT.qH,FT.vP]
   repeat' split
   all_goals rfl
  cases f with
  |leaf=>
   rw[<- e0 t'];simp only[FT.Qd];cases h0:ca t 0 with
   |true=>
    have:=ot h0;subst this;simp only[FT.qH,FT.vP];cases h1:ca t' 0 with
    |true=>have:=ot h1;simp[this]
    |false=>have:=ov h1;simp[this]
   |false=>
    have g0:=ov h0;cases h2:ca (t % 2) 1 with
    |true=>
     have g2:=ot h2;simp only[FT.qH,FT.vP];cases h1:ca t' 0 with
     |true=>have:=ot h1;subst this;simp[g0.symm]
     |false=>
      cases h3:ca (t' % 2) 1 with
      |true=>
       have g3:=ot h3;dsimp only;rw[ih _ _ _ (by omega)];by_cases e:t'=t
       ·subst e;simp
       ·rw[an e,an (by omega)];rfl
      |false=>
       have g3:=ov h3;have e:t'≠t:=by omega
       simp[e]
    |false=>
     have g2:=ov h2;simp only[FT.qH,FT.vP];cases h1:ca t' 0 with
     |true=>have:=ot h1;subst this;simp[g0.symm]
     |false=>
      have g1:=ov h1;cases h3:ca (t' % 2) 1 with
      |true=>
       have g3:=ot h3;have e:t'≠t:=by omega
       simp[e]
      |false=>
       have g3:=ov h3;dsimp only;rw[ih _ _ _ (by omega)];by_cases e:t'=t
       ·subst e;simp
       ·rw[an e,an (by omega)];rfl
  |node u l r=>
   simp only[FT.Qc];cases h0:ca t 0 with
   |true=>
    have:=ot h0;subst this;simp only[FT.qH];cases h1:ca t' 0 with
    |true=>have:=ot h1;simp[this]
    |false=>have:=ov h1;simp[this]
   |false=>
    have g0:=ov h0;cases h2:ca (t % 2) 1 with
    |true=>
     have g2:=ot h2;simp only[FT.qH];cases h1:ca t' 0 with
     |true=>have:=ot h1;subst this;simp[g0.symm]
     |false=>
      cases h3:ca (t' % 2) 1 with
      |true=>
       have g3:=ot h3;dsimp only;rw[ih _ _ _ (by omega)];by_cases e:t'=t
       ·subst e;simp
       ·rw[an e,an (by omega)]
      |false=>
       have g3:=ov h3;have e:t'≠t:=by omega
       simp[e]
    |false=>
     have g2:=ov h2;simp only[FT.qH];cases h1:ca t' 0 with
     |true=>have:=ot h1;subst this;simp[g0.symm]
     |false=>
      have g1:=ov h1;cases h3:ca (t' % 2) 1 with
      |true=>
       have g3:=ot h3;have e:t'≠t:=by omega
       simp[e]
      |false=>
       have g3:=ov h3;dsimp only;rw[ih _ _ _ (by omega)];by_cases e:t'=t
       ·subst e;simp
       ·rw[an e,an (by omega)]
theorem Fr.a_(fr:Fr)(d:Nat)(v:V):(fr.put d v).n=fr.n:=by
 unfold Fr.put;split <;> rfl
theorem Fr.get_some{fr:Fr}{t:Nat}{v:V}(h:fr.get t=some v):t<fr.n:=by
 unfold Fr.get at h;split at h
 ·rename_i g;exact Jn g
 ·cases h
theorem Fr.aJ(fr:Fr)(d:Nat)(v:V)(t:Nat):(fr.put d v).get t=if t=d/\d<fr.n then some v else fr.get t:=by
 unfold Fr.put;cases h:i5 d fr.n with
 |true=>
  have g:=Jn h;simp only[Fr.get];cases h':i5 t fr.n with
  |true=>
   dsimp only;rw[FT.aJ v _ _ _ _ (by omega)];by_cases e:t=d
   ·rw[az e,az ⟨e,g⟩]
   ·rw[an e,an (λx=>e x.1)]
  |false=>
   have g':=Bg h';dsimp only;rw[an (λx=>g' (by rw[x.1];exact x.2))]
 |false=>
  have g:=Bg h;rw[an (λx=>g x.2)]
def FR(c:Cx)(fr:Fr)(tmps:Array ο):Prop:=fr.n=tmps.size/\∀t v,fr.get t=some v->∃x,tmps[t]?=some x/\VR c v x
theorem FR.get{c:Cx}{fr:Fr}{tmps:Array ο}(h:FR c fr tmps){t:Nat}{v:V}(hv:fr.get t=some v):VR c v (tmps.getD t Go.undef):=by
 obtain⟨x,hx,hr⟩:=h.2 t v hv;rw[nh,hx];exact hr
theorem FR.mono{c c':Cx}(H:Ext c c'){fr:Fr}{tmps:Array ο}(h:FR c fr tmps):FR c' fr tmps:=
 ⟨h.1,λt v hv=>let ⟨x,hx,hr⟩:=h.2 t v hv; ⟨x,hx,hr.mono H⟩⟩
theorem FR.set{c:Cx}{fr:Fr}{tmps:Array ο}(h:FR c fr tmps){v:V}{x:ο}(hv:VR c v x)(d:Nat):FR c (fr.put d v) (tmps.setIfInBounds d x):=by
 refine⟨by rw[Fr.a_,h.1];simp,λt u hu=>?_⟩;rw[Fr.aJ]at hu;split at hu
 ·rename_i e;cases hu;obtain⟨rfl,hlt⟩:=e;rw[h.1]at hlt;exact⟨x,by simp[hlt],hv⟩
 ·rename_i e;obtain⟨y,hy,hr⟩:=h.2 t u hu;refine⟨y,?_,hr⟩;have hlt:=Fr.get_some hu;rw[iz];split
  ·rename_i e';subst e';exact(e ⟨rfl,hlt⟩).elim
  ·exact hy
theorem FR.fill{c:Cx}:∀{vs:List V}{xs:List ο}(h:fH c vs xs) {fr:Fr}{tmps:Array ο} (i:Nat),FR c fr tmps->i+vs.length<=tmps.size ->
  FR c (fr.fill i vs) (tmps.toList.take i++xs++tmps.toList.drop (i+xs.length)).toArray
 | [],xs,h,fr,tmps,i,hf,hl=>by
  cases h;simpa [Fr.fill]using hf
 |v::vs,xs,h,fr,tmps,i,hf,hl=>by
  cases h with | cons _ x _ xs hv hr=>
  simp only[Fr.fill];simp only[IT]at hl;have hf':=hf.set hv i;have:=FR.fill hr (i+1) hf' (by simp;omega)
  have e:((tmps.setIfInBounds i x).toList.take (i+1)++xs++(tmps.setIfInBounds i x).toList.drop (i+1+xs.length))=(tmps.toList.take i++(x::xs)++tmps.toList.drop (i+(x::xs).length)):=by
   have hlt:i<tmps.toList.length:=by simp;omega
   rw[ke,List.take_set,List.drop_set]
   have e1:(tmps.toList.take (i+1)).set i x=tmps.toList.take i++[x]:=by
    have hm:min i tmps.size=i:=by simp at hlt;omega
    rw[List.take_succ_eq_append_getElem hlt,o7 _ _ (by simp;omega)];simp[hm]
   rw[e1,az (by omega)];simp[Nat.add_assoc,Nat.add_comm 1]
  rw[e]at this;exact this
theorem FR.init{c:Cx}{n:Nat}{vs:List V}{xs:List ο}(h:fH c vs xs){fr:Fr}(hi:Fr.init n vs=some fr):FR c fr (xs.toArray++dC (n-xs.length) Go.undef):=by
 unfold Fr.init at hi;split at hi
 case h_2=>cases hi
 rename_i hle;have hle':vs.length<=n:=jl hle;cases hi
 have h0:FR c ⟨n,.leaf⟩ (dC n Go.undef):=by
  refine⟨by simp,λt v hv=>?_⟩;have hlt:=Fr.get_some hv;unfold Fr.get at hv;split at hv
  ·cases hv;exact⟨Go.undef,by simp at hlt;simp[hlt],.undef⟩
  ·cases hv
 have:=FR.fill h 0 h0 (by simp;omega)
 have e:((dC n Go.undef).toList.take 0++xs++(dC n Go.undef).toList.drop (0+xs.length)).toArray=xs.toArray++dC (n-xs.length) Go.undef:=by
  apply pn;simp
 rw[e]at this;exact this
theorem aM{c:Cx}{fr:Fr}{a:Act}(h:FR c fr a.tmps){o:χ}{v:V}(he:aS fr o=some v):VR c v (a.eval o):=by
 cases o with
 |tmp t=>exact FR.get h he
 |const x=>exact ED he
 |global g=>cases he
 |func f=>simp only[aS]at he;cases he;exact .inl (.fn f)
theorem jJ{c:Cx}{fr:Fr}{a:Act}(h:FR c fr a.tmps):∀{os:List χ}{vs:List V},eJ fr os=some vs->fH c vs (os.map a.eval)
 | [],vs,he=>by simp[eJ]at he;subst he;exact .nil
 |o::os,vs,he=>by
  simp only[eJ]at he;split at he
  ·rename_i v l h1 h2;cases he;exact .cons _ _ _ _ (aM h h1) (jJ h h2)
  ·cases he
inductive Sc:List Kd->List V->List ο->Prop
 |nil:Sc [] [] []
 |bool (b:Bool) (sh:List Kd) (vs:List V) (xs:List ο)(h:Sc sh vs xs):Sc (.bool::sh) (.bool b::vs) (.bool b::xs)
 |int (k:fz) (n:Int) (sh:List Kd) (vs:List V) (xs:List ο)(h:Sc sh vs xs):Sc (.int k::sh) (.int k n::vs) (.int k n::xs)
 |str (s:ByteArray) (sh:List Kd) (vs:List V) (xs:List ο)(h:Sc sh vs xs):Sc (.str::sh) (.str (bytes s)::vs) (.string s::xs)
structure jN (P:ar) (t:Nat) (sh:List Kd):Prop where
 eq:∀w as bs xs ys b,eqs sh as bs=some b->Sc sh as xs->Sc sh bs ys->(Op.equal t (.agg xs.toArray) (.agg ys.toArray)).run P w=.ok b w
 guard:∀w op x y xs ys as bs,Sc sh as xs->Sc sh bs ys->(eqGuard op t x y (.agg xs.toArray) (.agg ys.toArray)).run P w=.ok () w
 key:∀w e as xs,Sc sh as xs->(Instr.checkKey e 10000 t (.agg xs.toArray)).run P w=.ok () w
 jL:∃a,P.underlying t=some (.struct a)
structure cG (P:ar) (E:Env):Prop where
 ty:∀t i,E.ty t=some i->xB P t i
 eqs:∀t sh,E.eqs t=some sh->jN P t sh
 Ey:∀t,E.Ey t=true->liesAt P P.depth t 1 0 t 1=true
def Good(E:Env)(c:Cx)(r:Result Next)(v:V)(σ':Sg):Prop:=
 ∃(c':Cx) (x:ο),(r=.ok (.value x) c'.w\/(r=.ok .skip c'.w/\x=Go.undef))/\c'.Z=σ'/\Ext c c'/\SR E c'/\VR c' v x
theorem Good.same{E:Env}{c:Cx}{r:Result Next}{v:V}{x:ο}(hs:SR E c)(hr:r=.ok (.value x) c.w)(hv:VR c v x):Good E c r v c.Z:=
 ⟨c,x,.inl hr,rfl,Ext.refl c,hs,hv⟩
theorem oA{w:Γ}{k o:Nat}{arr:Array ο}{t:Nat}{fr:Nat × Nat}(h:w.heap[k]?=some (.cells arr t fr)):w.cell? ⟨k,o,none⟩=arr[o]?:=by
 simp[World.cell?,h]
theorem BA{P:ar}{t:Nat}{i:Ty}(h:xB P t i)(a:Addr)(w:Γ) :
  (loadVar t a).run P w=if Ax.isAgg i.kd=true then ((loadCells a i.size).run P w).andThen λcs w=>.ok (.agg cs) w else (load a).run P w:=by
 unfold loadVar;simp only[υ,h.isAgg,ν];cases Ax.isAgg i.kd <;> simp[h.size]
theorem j_{P:ar}{w:Γ}{k o n:Nat}{xs:List ο}(hl:xs.length=n)(h:∀(j:Nat)(x:ο),xs[j]?=some x->w.cell? ⟨k,o+j,none⟩=some x) :
  (loadCells ⟨k,o,none⟩ n).run P w=.ok xs.toArray w:=by
 subst hl;exact run_loadCells_list w _ xs λj v hj=>by rw[Addr.add_lit];exact h j v hj
section
variable {P:ar}{E:Env}{c:Cx}
theorem Dw(he:cG P E)(hs:SR E c){t:Nat}{av v:V}{ax:ο}(h:loadAt E c.Z t av=some v)(hv:VR c av ax) :
  ∃x,(Instr.loadAt t ax).run P c.w=.ok x c.w/\VR c v x:=by
 unfold loadAt at h;split at h
 ·cases h
 ·rename_i i hi;have ht:=he.ty t i hi;split at h
  ·rename_i b off;obtain⟨rfl,hb⟩:=hv.iV;split at h
   ·rename_i u cs ex hob;obtain⟨arr,h1,h2,h3,h4,h5,h6,_⟩:=(hs.obj b _ hob).jC;simp only[Instr.loadAt,ms,υ,ψ,ν,BA ht];split at h
    ·rename_i hag;rw[az hag];split at h
     ·rename_i hle;cases h;have hl:((arr.toList.drop off).take i.size).length=i.size:=by simp;omega
      rw[j_ hl (λj x hj=>by
       rw[oA h1];have hj':j<i.size:=by have:=(AI.1 hj).1;omega
       simp only[ik,hj',bf,jf,fq]at hj;exact hj)]
      refine⟨_,rfl,.agg _ _ ?_⟩;have:=(h6.drop off).take i.size
      have e:((arr.toList.take cs.length).drop off).take i.size=(arr.toList.drop off).take i.size:=by
       rw[List.drop_take,nr,mq (by omega)]
      rwa [e]at this
     ·cases h
    ·rename_i hag;rw[an hag];obtain⟨x,hx,hr⟩:=h6.get off v h;have hlt:off<cs.length:=(AI.1 h).1;have hx':arr[off]?=some x:=by simpa [getElem?_take,hlt]using hx
     exact⟨x,by simp[run_load,oA h1,hx'],hr⟩
   ·cases h
  ·rename_i g cs;obtain⟨blk,off,rfl,hi',hc⟩:=hv.z_;obtain⟨xs,hxs,hcell⟩:=hc.vals;have hV:fH c cs xs:=(hxs.mono (wC c g)).vrs;simp only[Instr.loadAt,ms,υ,ψ,ν,BA ht];split at h
   ·rename_i hag;rw[az hag];split at h
    ·rename_i hle;cases h;have hl:(xs.take i.size).length=i.size:=by have:=hV.len;simp;omega
     rw[j_ hl (λj x hj=>hcell j x (by
      have hj':j<i.size:=by have:=(AI.1 hj).1;omega
      simpa [getElem?_take,hj']using hj))]
     exact⟨_,rfl,.agg _ _ (hV.take _)⟩
    ·cases h
   ·rename_i hag;rw[an hag];have h0:cs[0]?=some v:=by cases cs <;> simp_all
    obtain⟨x,hx,hr⟩:=hV.get 0 v h0;have:=hcell 0 x hx;exact⟨x,by simp only[l6]at this;simp[run_load,this],hr⟩
  ·cases h
theorem wH{w:Γ}{g:Nat}{arr new:Array ο}{t:Nat}{fr:Nat × Nat}(h:w.heap[g]?=some (.cells arr t fr)) :
  w.setRow g new={ w with heap:=w.heap.setIfInBounds g (.cells new t fr) }:=by
 have:(w.setRow g new).heap=w.heap.setIfInBounds g (.cells new t fr):=by
  apply Array.ext_getElem?;intro k;by_cases e:g=k
  ·subst e;rw[setRow_heap w g arr new t fr h];have:=jI h;simp[this]
  ·rw[setRow_other w g k new (λx=>e x.symm)];simp[e]
 cases w;simp only[World.setRow]at this ⊢;simp only[this]
theorem Ql{cs vs:List V}{off:Nat}(h:cs.all V.aZ=true)(k:vs.all V.aZ=true):(setCells cs off vs).all V.aZ=true:=by
 simp only[setCells,lg,ak,eu]at *;exact⟨⟨λx hx=>h x (jo hx),k⟩,λx hx=>h x (mf hx)⟩
theorem AQ(hs:SR E c){b t:Nat}{cs:List V}{ex:Bool}(hob:c.Z[b]?=some (.cells t cs ex)){off:Nat}{vs:List V}{xs:List ο}
  (hv:fH c vs xs)(h1:vs.all V.aZ=true)(hl:off+vs.length<=cs.length) :
  ∃c',(storeCells ⟨c.blk b,off,none⟩ xs 0).run P c.w=.ok () c'.w/\c'.Z=c.Z.set b (.cells t (setCells cs off vs) ex)/\Ext c c'/\SR E c':=by
 obtain⟨arr,g1,g2,g3,g4,g5,g6,g7⟩:=(hs.obj b _ hob).jC;have hlv:live c.Z b:=⟨_,hob,rfl⟩;have hlen:=hv.len;have hlc:=g6.len;have hrun:=run_storeCells_at (P:=P) (c.blk b) off t xs 0 arr c.w g1 (by omega) (hv.lQ h1);rw[wH g1]at hrun;refine⟨c.put b (.cells (arr.toList.take (off+0)++xs++arr.toList.drop (off+0+xs.length)).toArray t (0,0)) (.cells t (setCells cs off vs) ex),hrun,rfl,Cx.mU hlv _ _,Cx.uZ hs hlv _ _ ?_⟩;have hlt:=jI g1;have hext:=Cx.mU hlv (.cells (arr.toList.take (off+0)++xs++arr.toList.drop (off+0+xs.length)).toArray t (0,0)) (.cells t (setCells cs off vs) ex);refine uN.vV (arr:=(arr.toList.take (off+0)++xs++arr.toList.drop (off+0+xs.length)).toArray) (xs:=arr.toList.take off++xs++(arr.toList.take cs.length).drop (off+xs.length)) (ys:=arr.toList.drop cs.length) ?_ ?_ g3 ?_ ?_ ?_ ?_
 ·simp[Cx.put,hlt]
 ·simp[Cx.put];omega
 ·intro e;have:=g5 e;simp[setCells];omega
 ·simp only[l6,cw];congr 2;have e1:arr.toList.drop (off+xs.length)=(arr.toList.take cs.length++arr.toList.drop cs.length).drop (off+xs.length):=by rw[List.take_append_drop]
  rw[e1,List.drop_append_of_le_length (by simp;omega)]
 ·have e2:(arr.toList.take cs.length).take off=arr.toList.take off:=by rw[nr,mq (by omega)]
  have:=((g6.take off).append hv).append (g6.drop (off+vs.length));rw[e2,hlen]at this;have:=fH.mono hext this;simpa [setCells,hlen]using this
 ·exact Ql g7 h1
theorem HR(he:cG P E)(hs:SR E c){t:Nat}{av v:V}{ax x:ο}{σ':Sg}(h:storeAt E c.Z t av v=some σ')(ha:VR c av ax)(hv:VR c v x) :
  ∃c',(Instr.storeAt t ax x).run P c.w=.ok () c'.w/\c'.Z=σ'/\Ext c c'/\SR E c':=by
 unfold storeAt at h;split at h
 ·rename_i i b off hi;have ht:=he.ty t i hi;obtain⟨rfl,hb⟩:=ha.iV;split at h
  ·rename_i u cs ex hob;split at h
   ·rename_i hc;cases h;simp only[ak,gp,af]at hc;obtain⟨c',r1,r2,r3,r4⟩:=AQ (P:=P) hs hob hv.cells hc.1.2 (off:=off) (by omega);refine⟨c',?_,r2,r3,r4⟩;have hsz:x.cells.size=i.size:=by have:=hv.cells.len;simp at this;omega
    simp[Instr.storeAt,ms,storeVar,ht.size,hsz,r1]
   ·cases h
  ·cases h
 ·cases h
theorem AZ(hs:SR E c){t:Nat}{i:Ty}(hi:E.ty t=some i){cs:List V}{xs:Array ο}(hv:fH c cs xs.toList)(hok:cs.all V.aZ=true) :
  ∃c',c'.w={ c.w with heap:=c.w.heap.push (.cells xs t (0,0)) }/\c'.Z=c.Z++[.cells t cs true]/\Ext c c'/\SR E c'/\c'.blk c.Z.length=c.w.heap.size/\c'.tot c.Z.length=xs.size/\c'.yP c.Z.length=i.size:=by
 refine⟨c.alloc (.cells xs t (0,0)) (.cells t cs true) xs.size i.size,rfl,rfl,Cx.gJ hs _ _ _ _,Cx.sI hs _ _ _ _ ?_,by simp[Cx.alloc],by simp[Cx.alloc],by simp[Cx.alloc]⟩;have hl:=hv.len;refine uN.vV (arr:=xs) (xs:=xs.toList) (ys:=[]) ?_ (by simp[Cx.alloc]) ⟨i,hi,by simp[Cx.alloc]⟩ (λ_=>by simpa using hl) (by simp) (fH.mono (Cx.gJ hs _ _ _ _) hv) hok;show (c.w.heap.push _)[if c.Z.length=c.Z.length then _ else _]?=_;simp
def gP(E:Env)(c:Cx)(r:Result ο)(v:V)(σ':Sg):Prop:=
 ∃(c':Cx) (x:ο),r=.ok x c'.w/\c'.Z=σ'/\Ext c c'/\SR E c'/\VR c' v x
theorem gP.same{r:Result ο}{v:V}{x:ο}(hs:SR E c)(hr:r=.ok x c.w)(hv:VR c v x):gP E c r v c.Z:=
 ⟨c,x,hr,rfl,Ext.refl c,hs,hv⟩
theorem Ju(he:cG P E)(hs:SR E c){t:Nat}{i:Ty}(hi:E.ty t=some i) :
  gP E c ((Instr.alloc t true (.tuple #[])).run P c.w) (.ref c.Z.length 0) (c.Z++[.cells t i.zero.cells true]):=by
 have ht:=he.ty t i hi;obtain⟨z,hz,hr,_⟩:=ht.zero;have hv:VR c i.zero z:=(hr _ _).vr;obtain⟨c',h1,h2,h3,h4,h5,h6,h7⟩:=AZ hs hi (xs:=z.cells) hv.cells (hr c.w c.bE).lQ;refine⟨c',.pointer (some ⟨c.w.heap.size,0,none⟩),?_,h2,h3,h4,?_⟩
 ·simp[Instr.alloc,hz,newVar,newRow,h1]
 ·rw[<- h5];exact .ref _ _ (by rw[h2];simp)
theorem Ox(hs:SR E c){t:Nat}{i:Ty}(hi:E.ty t=some i){v:V}{x:ο}(hv:VR c v x)(hok:v.cells.all V.aZ=true) :
  gP E c ((Instr.box t x).run P c.w) (.ref c.Z.length 0) (c.Z++[.cells t v.cells true]):=by
 obtain⟨c',h1,h2,h3,h4,h5,h6,h7⟩:=AZ hs hi (xs:=x.cells) hv.cells hok;refine⟨c',.pointer (some ⟨c.w.heap.size,0,none⟩),?_,h2,h3,h4,?_⟩
 ·simp[Instr.box,newVar,newRow,h1]
 ·rw[<- h5];exact .ref _ _ (by rw[h2];simp)
theorem I9:∀(xs:List ο)(k off:Nat)(cs:Array ο),off+k+xs.length<=cs.size ->
  ((xs.zipIdx k).foldl (λcs (p:ο × Nat)=>cs.setIfInBounds (off+p.2) p.1) cs).toList=cs.toList.take (off+k)++xs++cs.toList.drop (off+k+xs.length)
 | [],k,off,cs,h=>by simp
 |x::xs,k,off,cs,h=>by
  simp only[List.zipIdx_cons,jh];simp only[IT]at h;rw[I9 xs (k+1) off (cs.setIfInBounds (off+k) x) (by simp;omega)];have e:=list_seg_step cs.toList (off+k) x xs (by simp;omega);simpa [ke,Nat.add_assoc]using e
inductive PR (c:Cx):List (Nat × V)->List (Nat × ο)->Prop
 |nil:PR c [] []
 |cons (n:Nat) (v:V) (x:ο) (ps:List (Nat × V)) (qs:List (Nat × ο))(hv:VR c v x)(hr:PR c ps qs):PR c ((n,v)::ps) ((n,x)::qs)
theorem tT(place:Nat->Option (Nat × Nat)):∀{ps:List (Nat × V)}{qs:List (Nat × ο)}{cells cells':List V}{arr:Array ο},PR c ps qs->fH c cells arr.toList->fill place cells ps=some cells' ->
  ∃arr',Instr.fill place arr qs=some arr'/\fH c cells' arr'.toList/\arr'.size=arr.size
 |_,_,cells,cells',arr,.nil,hv,h=>by
  simp only[fill]at h;cases h;exact⟨arr,rfl,hv,rfl⟩
 |_,_,cells,cells',arr,.cons n v x ps qs hvx hr,hv,h=>by
  simp only[fill]at h;split at h
  ·cases h
  ·rename_i off size hp;split at h
   ·cases h
   ·rename_i hc;simp only[fl,af,ql,Bool.not_eq_true,Bool.not_eq_false']at hc;obtain⟨⟨g1,g2⟩,g3⟩:=hc;have hlen:=hv.len;have hcl:=hvx.cells.len;simp only[jc]at hlen hcl;have hfold:=I9 x.cells.toList 0 off arr (by simp;omega)
    have hstep:fH c (setCells cells off v.cells) (x.cells.zipIdx.foldl (λcs (p:ο × Nat)=>cs.setIfInBounds (off+p.2) p.1) arr).toList:=by
     have e:(x.cells.zipIdx.foldl (λcs (p:ο × Nat)=>cs.setIfInBounds (off+p.2) p.1) arr).toList=arr.toList.take off++x.cells.toList++arr.toList.drop (off+x.cells.toList.length):=by
      rw[<- Array.foldl_toList,Array.toList_zipIdx];simpa using hfold
     rw[e];unfold setCells;have hd:=hv.drop (off+v.cells.length);rw[show off+x.cells.toList.length=off+v.cells.length by simp;omega];exact((hv.take off).append hvx.cells).append hd
    obtain⟨arr',r1,r2,r3⟩:=tT place hr hstep h;refine⟨arr',?_,r2,?_⟩
    ·simp only[Instr.fill,hp];rw[an (by simp;omega)];exact r1
    ·rw[r3]
     have:=b8 List.length (show (x.cells.zipIdx.foldl (λcs (p:ο × Nat)=>cs.setIfInBounds (off+p.2) p.1) arr).toList=arr.toList.take off++x.cells.toList++arr.toList.drop (off+x.cells.toList.length) by
      rw[<- Array.foldl_toList,Array.toList_zipIdx];simpa using hfold)
     simp only[jc,By,bl,nj]at this;omega
theorem pC{fr:Fr}{a:Act}(h:FR c fr a.tmps):∀{os:List (Nat × χ)}{vs:List (Nat × V)},lX fr os=some vs->PR c vs (os.map λ(i,x)=>(i,a.eval x))
 | [],vs,he=>by simp[lX]at he;subst he;exact .nil
 |(i,o)::os,vs,he=>by
  simp only[lX]at he;split at he
  ·rename_i v l h1 h2;cases he;exact .cons _ _ _ _ _ (aM h h1) (pC h h2)
  ·cases he
theorem BJ(he:cG P E):∀(fs:List Field)(w:Γ),(∀f∈fs,(E.ty f.type).isSome=true) ->
  (fs.mapM λf=>(do pure (f.offset,<- sizeOf f.type):Sem (Nat × Nat))).run P w=.ok (fs.map λf=>(f.offset,((E.ty f.type).map Ty.size).getD 0)) w
 | [],w,_=>by simp
 |f::fs,w,h=>by
  obtain⟨i,hi⟩:=ji.1 (h f (by simp));have:=BJ he fs w (λg hg=>h g (by simp[hg]));simp only[List.mapM_cons,υ,(he.ty _ _ hi).size,ν,ψ,this];simp[hi]
theorem Jl(he:cG P E)(hs:SR E c){t:Nat}{i:Ty}(hi:E.ty t=some i){fs:List (Nat × Nat)}(hk:i.kd=.jL fs){ps:List (Nat × V)}{qs:Array (Nat × ο)}(hp:PR c ps qs.toList)
  (hall:fs.all (λf=>(E.ty f.2).isSome)=true){cs:List V}
  (h:fill (placeOf E fs) i.zero.cells ps=some cs) :
  gP E c ((Instr.build t qs).run P c.w) (.agg cs) c.Z:=by
 have ht:=he.ty t i hi;obtain⟨z,hz,hr,_⟩:=ht.zero;have hv:VR c i.zero z:=(hr _ _).vr;obtain⟨d,hd,hkd⟩:=ht.kd;rw[hk]at hkd;obtain⟨a,rfl,hfs⟩:=hkd
 have hplaces:(a.mapM λf=>(do pure (f.offset,<- sizeOf f.type):Sem (Nat × Nat))).run P c.w=.ok (a.toList.map λf=>(f.offset,((E.ty f.type).map Ty.size).getD 0)).toArray c.w:=by
  rw[o9,Sem.run_map]
  rw[show (a.toList.mapM λf=>(do pure (f.offset,<- sizeOf f.type):Sem (Nat × Nat))).run P c.w=_ from BJ he a.toList c.w (λf hf=>by
   have:=eu.1 hall (f.offset,f.type) (by rw[<- hfs];exact cv.2 ⟨f,hf,rfl⟩);simpa using this)]
  rfl
 obtain⟨arr,r1,r2,r3⟩:=tT (c:=c) _ hp hv.cells h;refine gP.same hs (x:=.agg arr) ?_ (by simpa using VR.agg cs arr.toList r2)
 have hplace:(λj=>(a.toList.map λf=>(f.offset,((E.ty f.type).map Ty.size).getD 0)).toArray[j]?)=placeOf E fs:=by
  funext j;unfold placeOf;rw[<- hfs];simp only[cn,jm];cases hj:a.toList[j]? with
  |none=>rfl
  |some f=>
   have:(E.ty f.type).isSome=true:=by
    have:=eu.1 hall (f.offset,f.type) (by rw[<- hfs];exact cv.2 ⟨f,ag hj,rfl⟩);simpa using this
   obtain⟨y,hy⟩:=ji.1 this;simp[hy]
 simp only[Instr.build,υ,hz,ν,ξ hd,hplaces];rw[hplace,r1];rfl
end
theorem Gk(k:fz)(n:Int)(h1:lo k<=n)(h2:n<=hi k):k.wrap n=n:=by
 cases k <;> simp only[lo,hi]at h1 h2 <;> simp[IntKind.wrap,IntKind.signed,IntKind.bits] <;> omega
theorem Bq(k:fz)(n:Int):wr k n=k.wrap n:=by
 rw[Aw];split
 ·rename_i h;simp only[ak,af]at h;rw[Gk k n h.1 h.2]
 ·rfl
theorem sG(s:ByteArray):(bytes s).length=s.size:=by simp[bytes]
theorem Hr(a b:ByteArray):bytes (a++b)=bytes a++bytes b:=by simp[bytes]
theorem EG{a b:List UInt8}(h:a.map c7=b.map c7):a=b:=by
 induction a generalizing b with
 |nil=>cases b <;> simp_all
 |cons x a ih=>cases b with
  |nil=>simp at h
  |cons y b=>simp only[bj,pq]at h;rw[UInt8.toNat_inj.1 h.1,ih h.2]
theorem bytes_inj{a b:ByteArray}(h:bytes a=bytes b):a=b:=by
 have:=EG h;cases a;cases b;simp only[Array.toList_inj]at this;simp[this]
theorem seq_eq(a b:List Nat):seq a b=decide (a=b):=by
 induction a generalizing b with
 |nil=>cases b <;> simp[seq]
 |cons x a ih=>cases b with
  |nil=>simp[seq]
  |cons y b=>simp[C5,ih]
theorem AH(a b:ByteArray):seq (bytes a) (bytes b)=(a.toList==b.toList):=by
 rw[seq_eq,mn,mn];by_cases h:a=b
 ·subst h;simp
 ·have:¬ bytes a=bytes b:=λe=>h (bytes_inj e);have h2:¬ a.data=b.data:=λe=>h (by cases a;cases b;simp_all);simp[this,h2]
theorem E8(a b:List UInt8):slt (a.map c7) (b.map c7)=Op.bytesLess a b:=by
 induction a generalizing b with
 |nil=>cases b <;> rfl
 |cons x a ih=>cases b with
  |nil=>rfl
  |cons y b=>
   simp only[bj,yY,Op.bytesLess,ih];by_cases h:x=y
   ·subst h;simp
   ·have:¬ x.toNat=y.toNat:=λe=>h (UInt8.toNat_inj.1 e);simp[h,this,UInt8.lt_iff_toNat_lt]
theorem Wu(a b:ByteArray):slt (bytes a) (bytes b)=Op.bytesLess a.toList b.toList:=by
 rw[mn,mn];exact E8 _ _
section
variable {P:ar}{E:Env}{c:Cx}
theorem Js{op:BinOp}{k:fz}{a b:Int}{t:Nat}{v:V}(h:arith op k a b=some v)(w:Γ) :
  ∃x,(binOp op t (.int k a) (.int k b)).run P w=.ok x w/\VR c v x:=by
 cases op with
 |add=>simp only[eT]at h;cases h;exact⟨_,by simp[binOp,Op.intArith,Bq],.inl (.int _ _)⟩
 |sub=>simp only[eT]at h;cases h;exact⟨_,by simp[binOp,Op.intArith,Bq],.inl (.int _ _)⟩
 |mul=>simp only[eT]at h;cases h;exact⟨_,by simp[binOp,Op.intArith,Bq],.inl (.int _ _)⟩
 |quo=>
  simp only[eT]at h;split at h
  ·cases h
  ·rename_i hb;cases h;exact⟨_,by simp[binOp,Op.intDiv,hb,Bq],.inl (.int _ _)⟩
 |rem=>
  simp only[eT]at h;split at h
  ·cases h
  ·rename_i hb;cases h;exact⟨_,by simp[binOp,Op.intDiv,hb],.inl (.int _ _)⟩
 |and=>simp only[eT]at h;cases h;exact⟨.int k _,by simp only[binOp,ne_eq,not_true,b9];rfl,.inl (.int _ _)⟩
 |or=>simp only[eT]at h;cases h;exact⟨.int k _,by simp only[binOp,ne_eq,not_true,b9];rfl,.inl (.int _ _)⟩
 |xor=>simp only[eT]at h;cases h;exact⟨.int k _,by simp only[binOp,ne_eq,not_true,b9];rfl,.inl (.int _ _)⟩
 |andNot=>simp only[eT]at h;cases h;exact⟨.int k _,by simp only[binOp,ne_eq,not_true,b9];rfl,.inl (.int _ _)⟩
 |eql=>simp only[eT]at h;cases h;exact⟨.bool (decide (a=b)),by simp only[binOp,ne_eq,not_true,b9,Op.intCmp];rfl,.inl (.bool _)⟩
 |neq=>simp only[eT]at h;cases h;exact⟨.bool (!decide (a=b)),by simp only[binOp,ne_eq,not_true,b9,Op.intCmp];rfl,.inl (.bool _)⟩
 |lss=>simp only[eT]at h;cases h;exact⟨.bool (decide (a<b)),by simp only[binOp,ne_eq,not_true,b9,Op.intCmp];rfl,.inl (.bool _)⟩
 |leq=>simp only[eT]at h;cases h;exact⟨.bool (decide (a<=b)),by simp only[binOp,ne_eq,not_true,b9,Op.intCmp];rfl,.inl (.bool _)⟩
 |gtr=>simp only[eT]at h;cases h;exact⟨.bool (decide (b<a)),by simp only[binOp,ne_eq,not_true,b9,Op.intCmp];rfl,.inl (.bool _)⟩
 |geq=>simp only[eT]at h;cases h;exact⟨.bool (decide (b<=a)),by simp only[binOp,ne_eq,not_true,b9,Op.intCmp];rfl,.inl (.bool _)⟩
 |shl=>simp only[eT]at h;cases h
 |shr=>simp only[eT]at h;cases h
theorem HQ{op:BinOp}{a b:ByteArray}{t:Nat}{v:V}(h:uE op (bytes a) (bytes b)=some v)(w:Γ) :
  ∃x,(binOp op t (.string a) (.string b)).run P w=.ok x w/\VR c v x:=by
 cases op <;> simp only[uE]at h <;> first
  |(cases h;done)
  |(cases h;refine⟨_,by simp only[binOp,Op.stringOp];rfl,?_⟩;simp only[AH,Wu];exact .inl (.bool _))
  |skip
 split at h
 ·rename_i hle;cases h;simp only[af,sG]at hle;refine⟨.string (a++b),?_,by rw[<- Hr];exact .inl (.str _)⟩;simp only[binOp,Op.stringOp];rw[an (by simp;omega)];rfl
 ·cases h
theorem Bz{op:BinOp}{k k':fz}{a b:Int}{t:Nat}{v:V}(ho:op=.shl\/op=.shr)(h:shift op k a b=some v)(w:Γ) :
  ∃x,(binOp op t (.int k a) (.int k' b)).run P w=.ok x w/\VR c v x:=by
 unfold shift at h;split at h
 ·cases h
 ·rename_i hb;rcases ho with rfl | rfl
  ·simp only at h;cases h;exact⟨_,by simp[binOp,Op.shift,hb],.inl (.int _ _)⟩
  ·simp only at h;cases h;exact⟨_,by simp[binOp,Op.shift,hb],.inl (.int _ _)⟩
theorem KS:∀{sh:List Kd}{as bs:List V}{b:Bool}{xs ys:List ο},eqs sh as bs=some b->fH c as xs->fH c bs ys->Sc sh as xs/\Sc sh bs ys:=by
 intro sh as bs
 fun_induction eqs sh as bs with
 |case1=>intro b xs ys h ha hb;cases ha;cases hb;exact⟨.nil,.nil⟩
 |case2 sh x a y b' q hq ih=>
  intro b xs ys h ha hb;cases ha with | cons _ x' _ xs hx hxs=>
  cases hb with | cons _ y' _ ys hy hys=>
  obtain⟨h1,h2⟩:=ih hq hxs hys;rw[hx.gO,hy.gO];exact⟨.bool _ _ _ _ h1,.bool _ _ _ _ h2⟩
 |case4 k sh k1 x a k2 y b' hk q hq ih=>
  intro b xs ys h ha hb;obtain⟨rfl,rfl⟩:=hk;cases ha with | cons _ x' _ xs hx hxs=>
  cases hb with | cons _ y' _ ys hy hys=>
  obtain⟨h1,h2⟩:=ih hq hxs hys;rw[hx.eG,hy.eG];exact⟨.int _ _ _ _ _ h1,.int _ _ _ _ _ h2⟩
 |case7 sh x a y b' q hq ih=>
  intro b xs ys h ha hb;cases ha with | cons _ x' _ xs hx hxs=>
  cases hb with | cons _ y' _ ys hy hys=>
  obtain⟨h1,h2⟩:=ih hq hxs hys;obtain⟨s,rfl,rfl⟩:=hx.eX;obtain⟨s',rfl,rfl⟩:=hy.eX;exact⟨.str _ _ _ _ h1,.str _ _ _ _ h2⟩
 |_=>intro b xs ys h;cases h
theorem cU{t:Nat}{d:TypeDesc}(_hd:P.underlying t=some d)(w:Γ){x y:ο}{b:Bool}(h:∀n,(cX (n+1) t x y).run P w=.ok b w):(Op.equal t x y).run P w=.ok b w:=h 9999
theorem Od(he:cG P E){t:Nat}{xL:Bool}{v u:V}{x y:ο}{b:Bool}(h:mM E t xL v u=some b)(hv:VR c v x)(hu:VR c u y){op:BinOp}{ox oy:χ}
  (hc:xL=true->(∃z,ox=.const z)\/∃z,oy=.const z) :
  (eqGuard op t ox oy x y).run P c.w=.ok () c.w/\(Op.equal t x y).run P c.w=.ok b c.w:=by
 unfold mM at h;split at h
 ·cases h
 ·rename_i i hi;obtain⟨d,hd,hkd⟩:=(he.ty t i hi).kd;have plain:∀{x y:ο},(∀m:Unit,True)->(∀n,(cX (n+1) t x y).run P c.w=.ok b c.w)->(Op.equal t x y).run P c.w=.ok b c.w:=λ_ h=>h 9999;split at h <;> rename_i hk <;> (try rw[hk]at hkd) <;> (try simp only[pI]at hkd) <;> (try subst hkd)
  ·
   cases h;rw[hv.gO,hu.gO];exact⟨by cases op <;> rfl,cU hd _ λn=>by simp[cX,ξ hd]⟩
  ·cases h;rw[hv.qB,hu.qB];exact⟨by cases op <;> rfl,cU hd _ λn=>by simp[cX,ξ hd]⟩
  ·cases h;obtain⟨rfl,_⟩:=hu.iV;rw[hv.qB];exact⟨by cases op <;> rfl,cU hd _ λn=>by simp[cX,ξ hd]⟩
  ·cases h;obtain⟨_,_,rfl,_⟩:=hu.z_;rw[hv.qB];exact⟨by cases op <;> rfl,cU hd _ λn=>by simp[cX,ξ hd]⟩
  ·cases h;obtain⟨rfl,_⟩:=hv.iV;rw[hu.qB];exact⟨by cases op <;> rfl,cU hd _ λn=>by simp[cX,ξ hd]⟩
  ·cases h;obtain⟨_,_,rfl,_⟩:=hv.z_;rw[hu.qB];exact⟨by cases op <;> rfl,cU hd _ λn=>by simp[cX,ξ hd]⟩
  ·
   rename_i e b1 o1 b2 o2;split at h
   ·rename_i ei hei;split at h
    ·rename_i hbb;obtain⟨rfl,hz⟩:=hbb;cases h;obtain⟨rfl,_⟩:=hv.iV;obtain⟨rfl,_⟩:=hu.iV;refine⟨by cases op <;> rfl,cU hd _ λn=>?_⟩;simp only[cX,υ,ξ hd,ν,(he.ty e ei hei).size,gf,ne_eq,hz,od,bf,sameAddr,beq_self_eq_true];simp only[ψ,Result.ok.injEq,da];by_cases ho:o1=o2 <;> simp[ho]
    ·cases h
   ·cases h
  ·cases h;rw[hv.iF,hu.iF];exact⟨by cases op <;> rfl,cU hd _ λn=>by simp[cX,ξ hd]⟩
  ·cases h;obtain⟨_,_,_,_,_,rfl,_⟩:=hu.nZ;rw[hv.iF];exact⟨by cases op <;> rfl,cU hd _ λn=>by simp[cX,ξ hd]⟩
  ·cases h;obtain⟨_,rfl,_⟩:=hu.mR;rw[hv.iF];exact⟨by cases op <;> rfl,cU hd _ λn=>by simp[cX,ξ hd]⟩
  ·cases h;obtain⟨_,_,_,_,_,rfl,_⟩:=hv.nZ;rw[hu.iF];exact⟨by cases op <;> rfl,cU hd _ λn=>by simp[cX,ξ hd]⟩
  ·cases h;obtain⟨_,rfl,_⟩:=hv.mR;rw[hu.iF];exact⟨by cases op <;> rfl,cU hd _ λn=>by simp[cX,ξ hd]⟩
  ·cases h;rw[hv.mX,hu.mX];exact⟨by cases op <;> rfl,cU hd _ λn=>by simp[cX,ξ hd]⟩
  ·cases h;obtain⟨_,_,_,_,rfl,_⟩:=hu.tN;rw[hv.mX];exact⟨by cases op <;> rfl,cU hd _ λn=>by simp[cX,ξ hd]⟩
  ·cases h;obtain⟨rfl,_⟩:=hu.yC;rw[hv.mX];exact⟨by cases op <;> rfl,cU hd _ λn=>by simp[cX,ξ hd]⟩
  ·cases h;obtain⟨_,_,_,_,rfl,_⟩:=hv.tN;rw[hu.mX];exact⟨by cases op <;> rfl,cU hd _ λn=>by simp[cX,ξ hd]⟩
  ·cases h;obtain⟨rfl,_⟩:=hv.yC;rw[hu.mX];exact⟨by cases op <;> rfl,cU hd _ λn=>by simp[cX,ξ hd]⟩
  ·cases h;obtain⟨_,_,_,rfl⟩:=hkd;rw[hv.zS,hu.zS];exact⟨by cases op <;> rfl,cU hd _ λn=>by simp[cX,ξ hd]⟩
  ·cases h;obtain⟨_,_,_,rfl⟩:=hkd;obtain⟨_,_,rfl,_⟩:=hu.A_;rw[hv.zS];exact⟨by cases op <;> rfl,cU hd _ λn=>by simp[cX,ξ hd]⟩
  ·cases h;obtain⟨_,_,_,rfl⟩:=hkd;obtain⟨_,_,rfl,_⟩:=hv.A_;rw[hu.zS];exact⟨by cases op <;> rfl,cU hd _ λn=>by simp[cX,ξ hd]⟩
  ·split at h
   ·rename_i hcs;cases h;obtain⟨_,rfl⟩:=hkd;rw[hv.zR,hu.zR];refine⟨?_,cU hd _ λn=>by simp[cX,ξ hd]⟩;rcases hc hcs with⟨z,rfl⟩ | ⟨z,rfl⟩
    ·rw[eqGuard_nil_constL];rfl
    ·rw[eqGuard_nil_constR];rfl
   ·cases h
  ·cases h;obtain⟨_,rfl⟩:=hkd;obtain⟨_,rfl,_⟩:=hu.G_;rw[hv.zR];exact⟨by rw[eqGuard_nil_iface];rfl,cU hd _ λn=>by simp[cX,ξ hd]⟩
  ·cases h;obtain⟨_,rfl⟩:=hkd;obtain⟨_,rfl,_⟩:=hv.G_;rw[hu.zR];exact⟨by rw[eqGuard_at_iface];rfl,cU hd _ λn=>by simp[cX,ξ hd]⟩
  ·split at h
   ·rename_i sh hsh;obtain⟨xs,rfl,hxs⟩:=hv.uB;obtain⟨ys,rfl,hys⟩:=hu.uB;obtain⟨s1,s2⟩:=KS h hxs hys;have ho:=he.eqs t sh hsh;exact⟨ho.guard _ _ _ _ _ _ _ _ s1 s2,ho.eq _ _ _ _ _ _ h s1 s2⟩
   ·cases h
  ·cases h
def AW:ο->Bool
 | .int .. | .float .. | .complex .. | .string _=>false
 |_=>true
theorem KZ{t:Nat}{x y:ο}(h:AW x=true):binOp .eql t x y=(do pure (.bool (<- Op.equal t x y)):Sem ο):=by
 cases x <;> first | (cases h;done) | rfl
theorem KY{t:Nat}{x y:ο}(h:AW x=true):binOp .neq t x y=(do pure (.bool (!(<- Op.equal t x y))):Sem ο):=by
 cases x <;> first | (cases h;done) | rfl
theorem VR.AW{v:V}{x:ο}(h:VR c v x)(h1:∀k n,v≠.int k n)(h2:∀s,v≠.str s):Ax.AW x=true:=by
 cases h with
 |inl h=>cases h <;> first | rfl | exact absurd rfl (h1 _ _) | exact absurd rfl (h2 _)
 |_=>rfl
theorem Cv{t:Nat}{xL:Bool}{v u:V}{b:Bool}(h:mM E t xL v u=some b):(∀k n,v≠.int k n)/\(∀s,v≠.str s):=by
 constructor
 ·intro k n e;subst e;unfold mM at h;split at h
  ·cases h
  ·split at h <;> first | (cases h;done) | simp_all
 ·intro s e;subst e;unfold mM at h;split at h
  ·cases h
  ·split at h <;> first | (cases h;done) | simp_all
theorem Oy(he:cG P E){op:BinOp}{t:Nat}{ox oy:χ}{v u r:V}{x y:ο}(h:bin E op t (isConst ox||isConst oy) v u=some r)(hv:VR c v x)(hu:VR c u y) :
  ∃z,(do eqGuard op t ox oy x y;binOp op t x y:Sem ο).run P c.w=.ok z c.w/\VR c r z:=by
 have hcst:(isConst ox||isConst oy)=true->(∃z,ox=.const z)\/∃z,oy=.const z:=by
  intro h;simp only[fl]at h;rcases h with h | h
  ·cases ox <;> first | (cases h;done) | exact .inl ⟨_,rfl⟩
  ·cases oy <;> first | (cases h;done) | exact .inr ⟨_,rfl⟩
 unfold bin at h;split at h
 ·rename_i k a k' b;rw[hv.eG,hu.eG];simp only[υ,eqGuard_at_int,ψ,ν];split at h
  ·exact Bz (.inl rfl) h c.w
  ·exact Bz (.inr rfl) h c.w
  ·split at h
   ·rename_i hk;subst hk;exact Js h c.w
   ·cases h
 ·rename_i a b;obtain⟨s,rfl,rfl⟩:=hv.eX;obtain⟨s',rfl,rfl⟩:=hu.eX;simp only[υ,eqGuard_at_string,ψ,ν];exact HQ h c.w
 ·rename_i hni hns;have key:∀b,mM E t (isConst ox||isConst oy) v u=some b->(eqGuard op t ox oy x y).run P c.w=.ok () c.w/\(Op.equal t x y).run P c.w=.ok b c.w:=λb hb=>Od he hb hv hu hcst;split at h
  ·cases hq:mM E t (isConst ox||isConst oy) v u with
   |none=>rw[hq]at h;cases h
   |some b=>
    rw[hq]at h;cases h;obtain⟨g1,g2⟩:=key b hq;refine⟨.bool b,?_,.inl (.bool _)⟩;have hn:=hv.AW (Cv hq).1 (Cv hq).2;simp only[υ,g1,ν,KZ hn,g2,ψ]
  ·cases hq:mM E t (isConst ox||isConst oy) v u with
   |none=>rw[hq]at h;cases h
   |some b=>
    rw[hq]at h;cases h;obtain⟨g1,g2⟩:=key b hq;refine⟨.bool (!b),?_,.inl (.bool _)⟩;have hn:=hv.AW (Cv hq).1 (Cv hq).2;simp only[υ,g1,ν,KY hn,g2,ψ]
  ·cases h
end
theorem eK.flat{w:Γ}{I:Bool->Nat->Prop}{sz blk:Nat}:∀{xs:List (List V)}{off:Nat},eK w I sz xs blk off->dS w I xs.flatten blk off/\xs.flatten.length=xs.length*sz
 | [],off,_=>⟨.nil,by simp⟩
 |r::xs,off,h=>by
  cases h with | cons _ _ hl hc hr=>
  obtain⟨h1,h2⟩:=hr.flat;refine⟨dS.rD λj v hj=>?_,by simp[h2,hl,Nat.succ_mul,Nat.add_comm]⟩;simp only[dn]at hj;by_cases hlt:j<r.length
  ·exact hc.get j v (by rwa [au hlt]at hj)
  ·rw[bg (by omega)]at hj;obtain⟨x,hx,hv⟩:=h1.get _ v hj;exact⟨x,by rw[show off+j=off+sz+(j-r.length) by omega];exact hx,hv⟩
theorem eK.drop{w:Γ}{I:Bool->Nat->Prop}{sz blk:Nat}:∀{xs:List (List V)}{off:Nat},eK w I sz xs blk off->∀l,eK w I sz (xs.drop l) blk (off+l*sz)
 | [],off,_,l=>by simp;exact .nil
 |r::xs,off,h,0=>by simpa using h
 |r::xs,off,h,l+1=>by
  cases h with | cons _ _ hl hc hr=>
  have:=hr.drop l;rw[show off+sz+l*sz=off+(l+1)*sz by rw[jg];omega]at this;simpa using this
theorem eK.take{w:Γ}{I:Bool->Nat->Prop}{sz blk:Nat}:∀{xs:List (List V)}{off:Nat},eK w I sz xs blk off->∀l,eK w I sz (xs.take l) blk off
 | [],off,_,l=>by simp;exact .nil
 |r::xs,off,h,0=>by simp;exact .nil
 |r::xs,off,h,l+1=>by
  cases h with | cons _ _ hl hc hr=>exact .cons r _ hl hc (hr.take l)
theorem eK.get{w:Γ}{I:Bool->Nat->Prop}{sz blk:Nat}:∀{xs:List (List V)}{off:Nat},eK w I sz xs blk off->∀i r,xs[i]?=some r->r.length=sz/\dS w I r blk (off+i*sz)
 | [],off,_,i,r,hr=>by simp at hr
 |q::xs,off,h,0,r,hr=>by
  cases h with | cons _ _ hl hc hrr=>simp at hr;subst hr;exact⟨hl,by simpa using hc⟩
 |q::xs,off,h,i+1,r,hr=>by
  cases h with | cons _ _ hl hc hrr=>
  obtain⟨h1,h2⟩:=hrr.get i r (by simpa using hr);exact⟨h1,by rw[show off+(i+1)*sz=off+sz+i*sz by rw[jg];omega];exact h2⟩
theorem eK.Gw{w:Γ}{I:Bool->Nat->Prop}{sz size blk off:Nat}{xs:List (List V)}(h:eK w I sz xs blk off)(hk:Gw size xs=true):xs=[]\/sz=size:=by
 cases h with
 |nil=>exact .inl rfl
 |cons r xs hl hc hr=>exact .inr (by simp only[Ax.Gw,gp]at hk;omega)
theorem eK.resize{w:Γ}{I:Bool->Nat->Prop}{sz size blk off:Nat}{xs:List (List V)}(h:eK w I sz xs blk off)(hk:Ax.Gw size xs=true):eK w I size xs blk off:=by
 rcases h.Gw hk with rfl | rfl
 ·exact .nil
 ·exact h
section
variable {P:ar}{E:Env}{c:Cx}
theorem VL(s:List UInt8):fH c (u8s (s.map c7)) (s.map λb=>.int .u8 b.toNat):=by
 induction s with
 |nil=>exact .nil
 |cons a s ih=>exact .cons _ _ _ _ (.inl (.int _ _)) ih
theorem mH(hs:SR E c){size:Nat}{v:V}{x:ο}{cs:List V}{n:Nat}(h:elems c.Z size v=some (cs,n))(hv:VR c v x) :
  ∃xs:List ο,fH c cs xs/\xs.length=n*size/\(∀w',(∀k,k<c.w.heap.size->w'.heap[k]?=c.w.heap[k]?)->(Builtin.firstCells size n x).run P w'=.ok xs.toArray w')/\(∀w',(qy x).run P w'=.ok n w')/\cs.all V.aZ=true:=by
 cases v <;> simp only[elems]at h <;> first | (cases h;done) | skip
 case str s=>
  split at h
  ·rename_i hsz;subst hsz;injection h with h;injection h with h1 h2;subst h1 h2;obtain⟨b,rfl,rfl⟩:=hv.eX;refine⟨b.data.toList.map λb=>.int .u8 b.toNat,VL _,by simp[bytes],λw' _=>?_,λw'=>by simp[qy,bytes],by simp[u8s,List.all_map,Function.comp_def,V.aZ]⟩;have e:b.extract 0 (bytes b).length=b:=by rw[sG];exact ByteArray.extract_zero_size
   simp only[Builtin.firstCells,e,ψ];congr 1;apply pn;simp
  ·cases h
 case aG=>
  injection h with h;injection h with h1 h2;subst h1 h2;rw[hv.iF];exact⟨[],.nil,by simp,λw' _=>rfl,λw'=>rfl,rfl⟩
 case bV g xs full=>
  split at h
  ·rename_i hk;injection h with h;injection h with h1 h2;subst h1 h2;obtain⟨blk,off,sp,cap,sz,rfl,hi,hc,hf,hr⟩:=hv.nZ;rcases hi with⟨rfl,hi⟩ | ⟨rfl,rfl⟩
   case inr=>exact⟨[],.nil,by simp,(λw' _=>by unfold Builtin.firstCells;simp only[aq,gz];exact run_loadCells_list w' _ [] λj v hj=>by cases hj),λw'=>rfl,rfl⟩
   obtain⟨hcells,hlen⟩:=(hr.resize hk).flat;obtain⟨ys,hys,hcell⟩:=hcells.vals;have hV:fH c xs.flatten ys:=(hys.mono (wC c g)).vrs;have hl:=hV.len;refine⟨ys,hV,by omega,λw' hw=>?_,λw'=>rfl,hys.lQ⟩;simp only[Builtin.firstCells]
   exact j_ (by omega) λj y hj=>by
    rw[cell_of_heap (hw blk hi.1)];exact hcell j y hj
  ·cases h
 case sl b off len cap=>
  split at h
  ·rename_i t cs' ex hob;split at h
   ·rename_i hle;injection h with h;injection h with h1 h2;subst h1 h2;obtain⟨cap',rfl,hb,hl,_⟩:=hv.mR;obtain⟨arr,g1,g2,g3,g4,g5,g6,g7⟩:=(hs.obj b _ hob).jC;have hV:=(g6.drop off).take (len*size)
    have e:((arr.toList.take cs'.length).drop off).take (len*size)=(arr.toList.drop off).take (len*size):=by
     rw[List.drop_take,nr,mq (by omega)]
    rw[e]at hV
    refine⟨_,hV,by simp;omega,λw' hw=>?_,λw'=>rfl,by
     simp only[eu]at g7 ⊢;exact λx hx=>g7 x (mf (jo hx))⟩
    simp only[Builtin.firstCells];refine j_ (by simp;omega) λj y hj=>?_;rw[cell_of_heap (hw _ (jI g1)),oA g1];have hj':j<len*size:=by have:=(AI.1 hj).1;simp at this;omega
    simpa [getElem?_take,hj',List.getElem?_drop]using hj
   ·cases h
  ·cases h
theorem P8(n:Nat)(z:List V):(gG n z).length=n*z.length:=by
 induction n with
 |zero=>simp[gG]
 |succ n ih=>simp[gG,ih,Nat.succ_mul,Nat.add_comm]
def rP(n:Nat)(z:List ο):List ο:=match n with
 |0=>[]
 |n+1=>z++rP n z
theorem zH{z:List V}{zs:List ο}(h:fH c z zs)(n:Nat):fH c (gG n z) (rP n zs):=by
 induction n with
 |zero=>exact .nil
 |succ n ih=>exact h.append ih
theorem NA(n:Nat)(z:List ο)(d:ο):(List.range (n*z.length)).map (λi=>z[i % z.length]?.getD d)=rP n z:=by
 induction n with
 |zero=>simp[rP]
 |succ n ih=>
  rw[jg,lu,List.range_add,gj,js,rP];congr 1
  ·apply jw;intro i;by_cases hi:i<z.length
   ·simp[hi,Nat.mod_eq_of_lt hi]
   ·simp[hi]
  ·rw[<- ih];apply jk;intro i _;simp[Function.comp]
theorem oU(z:Array ο)(n:Nat):(Builtin.zeroCells z n).toList=rP n z.toList:=by
 have:=NA n z.toList default;simp only[Builtin.zeroCells,Array.toList_map,Array.toList_range];rw[<- this];simp only[jc];apply jk;intro i hi;simp[getElem!_def,Array.getElem?_toList,Option.getD];cases z[i % z.size]? <;> rfl
theorem sW{need bytes:Nat}(h:roomy need bytes=true){old:Nat}(ho:old<need):dT need old*bytes<=2 ^ 48/\need<=281474976710656:=by
 simp only[roomy,af]at h
 have hn:dT need old<=2*need+256:=by
  have grow:∀r c,c<=2*need+256->Builtin.growBy need r c<=2*need+256:=by
   intro r
   induction r with
   |zero=>intro c h;exact h
   |succ r ih=>
    intro c h;unfold Builtin.growBy;split
    ·exact h
    ·exact ih _ (by omega)
  unfold dT;split
  ·omega
  ·split
   ·omega
   ·exact grow 4 old (by omega)
 have h1:dT need old*bytes<=(2*need+256)*(bytes+1):=Nat.mul_le_mul hn (by omega);have h2:need*1<=(2*need+256)*(bytes+1):=Nat.mul_le_mul (by omega) (by omega);exact⟨e8 h1 (e8 h (by decide)),e8 (by rw[pg]at h2;exact h2) h⟩
theorem Ii{need bytes:Nat}(h:pV need bytes=true)(ho:0<need):dT need 0*bytes<=2 ^ 48/\need<=281474976710656:=by
 simp only[pV,af]at h
 have hn:dT need 0=need:=by
  unfold dT;rw[az (by omega)]
 have h1:need*bytes<=need*(bytes+1):=Nat.mul_le_mul (OF _) (by omega);have h2:need*1<=need*(bytes+1):=Nat.mul_le_mul (OF _) (by omega);rw[hn];exact⟨e8 h1 (e8 h (by decide)),e8 (by rw[pg]at h2;exact h2) h⟩
theorem Me(hs:SR E c){t:Nat}{i:Ty}(hi:E.ty t=some i){cs:List V}{xs ys:List ο}(hv:fH c cs xs)(hok:cs.all V.aZ=true) :
  ∃c',c'.w={ c.w with heap:=c.w.heap.push (.cells (xs++ys).toArray t (0,0)) }/\c'.Z=c.Z++[.cells t cs false]/\Ext c c'/\SR E c'/\c'.blk c.Z.length=c.w.heap.size/\c'.tot c.Z.length=xs.length+ys.length/\c'.yP c.Z.length=i.size:=by
 refine⟨c.alloc (.cells (xs++ys).toArray t (0,0)) (.cells t cs false) (xs.length+ys.length) i.size,rfl,rfl,Cx.gJ hs _ _ _ _,Cx.sI hs _ _ _ _ ?_,by simp[Cx.alloc],by simp[Cx.alloc],by simp[Cx.alloc]⟩;refine uN.vV (arr:=(xs++ys).toArray) (xs:=xs) (ys:=ys) ?_ (by simp[Cx.alloc]) ⟨i,hi,by simp[Cx.alloc]⟩ (λh=>by cases h) (by simp) (fH.mono (Cx.gJ hs _ _ _ _) hv) hok;show (c.w.heap.push _)[if c.Z.length=c.Z.length then _ else _]?=_;simp
theorem Qn{k:Kd}(hne:∀i,k≠.int i){d:TypeDesc}(h:pI d k)(j:fz):d≠.int j:=by
 rintro rfl
 cases k <;> simp only[pI]at h <;> first
  |(exact absurd rfl (hne _))
  |(cases h;done)
  |(obtain⟨_,_,_,h⟩:=h;cases h;done)
  |(obtain⟨_,h,_⟩:=h;cases h;done)
  |(obtain⟨_,h⟩:=h;cases h;done)
theorem kD{st e : Nat}{i : Ty}(he : cG P E){si : Ty}(hsi : E.ty st = some si)(hk : si.kd = .sl e)(hi : E.ty e = some i)(ats : Array Nat)(ty : Nat)(hat : ats[0]? = some st)
    (hz : ∀ xt, ats[1]? = some xt -> ∃ xi, E.ty xt = some xi /\ (∀ k, xi.kd ≠ .int k)){x y : ο}{base : Option Addr}{len cap n : Nat}
    {olds news : List ο}(hy : y = .slice base len cap)
    (hn : ∀ w', (qy x).run P w' = .ok n w')(hcap : cap < len + n)(hr : dT (len + n) cap * i.bytes <= 2 ^ 48 /\ len + n <= 281474976710656)(w : Γ)
    (hold : ∀ w', (∀ k, k < w.heap.size -> w'.heap[k]? = w.heap[k]?) -> (Builtin.firstCells i.size len y).run P w' = .ok olds.toArray w')
    (hnew : ∀ w', (∀ k, k < w.heap.size -> w'.heap[k]? = w.heap[k]?) -> (Builtin.firstCells i.size n x).run P w' = .ok news.toArray w') :
    ∃ (nc : Nat) (rest : List ο), len + n <= nc /\ rest.length = (nc - (len + n)) * i.size /\
      (gc ats ty #[y, x]).run P w = .ok (.slice (some ⟨w.heap.size, 0, none⟩) (len + n) nc)
        { w with heap := w.heap.push (.cells ((olds ++ news) ++ rest).toArray e (0, 0)), drawn := w.drawn + 1 } := by
  have ht := he.ty e i hi;obtain ⟨d, hd, hkd⟩ := (he.ty st si hsi).kd;rw [hk] at hkd;simp only [pI] at hkd;subst hkd;obtain ⟨z, hz0, hz1, hzs⟩ := ht.zero;obtain ⟨inf, hinf, hsz, hby, _⟩ := ht.info;obtain ⟨h1, h2⟩ := hr;subst hy;refine ⟨(oi (len + n) cap e).cut (w.tape w.drawn (.appendCap (len + n) cap e)), rP ((oi (len + n) cap e).cut (w.tape w.drawn (.appendCap (len + n) cap e)) - (len + n)) z.cells.toList, ?_, ?_, ?_⟩
  · simp [Question.cut]
  · have : ∀ m, (rP m z.cells.toList).length = m * i.size := by
      intro m
      induction m with
      | zero => simp [rP]
      | succ m ih => simp [rP, ih, hzs, Nat.succ_mul, Nat.add_comm]
    exact this _
  · have hnc : ¬ (len + n <= cap) := by omega
    have hmx : ¬ ((((len + n : Nat) : Int) > IntKind.i64.max) /\ (False \/ inf.bytes = 0)) := by
      rw [IntKind.max_i64]; omega
    have hbig : ¬ (dT (len + n) cap * inf.bytes > 2 ^ 48) := by rw [hby]; omega
    have hfo : (oi (len + n) cap e).forced = false := rfl;unfold gc;have e0 : (#[Value.slice base len cap, x] : Array ο)[0]? = some (.slice base len cap) := rfl;have e1 : (#[Value.slice base len cap, x] : Array ο)[1]? = some x := rfl;rw [hat, e0, e1];cases hx : ats[1]? with
    | none =>
      simp only [υ, ξ hd, ν, ht.size, ai, b9, hn w, gf, hnc, mg, bf, run_typeInfo hinf, hmx, hbig, run_choose, run_askRoom, ψ, hfo];simp only [hold { w with drawn := w.drawn + 1 } (fun _ _ => rfl), hnew { w with drawn := w.drawn + 1 } (fun _ _ => rfl), hz0, newRow, υ, run_newObj, ψ, ν];congr 4;apply pn;simp [oU]
    | some xt =>
      obtain ⟨xi, hxi, hne⟩ := hz xt hx;obtain ⟨d, hd', hkd'⟩ := (he.ty xt xi hxi).kd;have hm := Qn hne hkd'
      cases d <;> first
        | exact absurd rfl (hm _)
        | (simp only [υ, ξ hd, ξ hd', ν, ht.size, ai, b9, hn w, gf, hnc, mg, bf, run_typeInfo hinf, hmx, hbig, run_choose, run_askRoom, ψ, hfo]
           simp only [hold { w with drawn := w.drawn + 1 } (fun _ _ => rfl), hnew { w with drawn := w.drawn + 1 } (fun _ _ => rfl), hz0, newRow, υ, run_newObj, ψ, ν];congr 4;apply pn;simp [oU])
theorem lJ{st e : Nat}{i : Ty}(he : cG P E){si : Ty}(hsi : E.ty st = some si)(hk : si.kd = .sl e)(hi : E.ty e = some i)(ats : Array Nat)(ty : Nat)(hat : ats[0]? = some st)
    (hz : ∀ xt, ats[1]? = some xt -> ∃ xi, E.ty xt = some xi /\ (∀ k, xi.kd ≠ .int k)){x : ο}{base : Option Addr}{len cap n : Nat}{news : List ο}
    (hn : ∀ w', (qy x).run P w' = .ok n w')(hcap : len + n <= cap)(w : Γ)
    (hnew : (Builtin.firstCells i.size n x).run P w = .ok news.toArray w) :
    (gc ats ty #[.slice base len cap, x]).run P w =
      (match base with
       | some a => ((storeCells (a.add (len * i.size)) news 0).run P w).andThen fun _ w => .ok (.slice base (len + n) cap) w
       | none => .ok (.slice base (len + n) cap) w) := by
  have ht := he.ty e i hi;obtain ⟨d, hd, hkd⟩ := (he.ty st si hsi).kd;rw [hk] at hkd;simp only [pI] at hkd;subst hkd;unfold gc;have e0 : (#[Value.slice base len cap, x] : Array ο)[0]? = some (.slice base len cap) := rfl;have e1 : (#[Value.slice base len cap, x] : Array ο)[1]? = some x := rfl;rw [hat, e0, e1];cases hx : ats[1]? with
  | none =>
    simp only [υ, ξ hd, ν, ht.size, ai, b9, hn w, gf, hcap, mg, bf, ψ, hnew];cases base <;> simp
  | some xt =>
    obtain ⟨xi, hxi, hne⟩ := hz xt hx;obtain ⟨d, hd', hkd'⟩ := (he.ty xt xi hxi).kd;have hm := Qn hne hkd'
    cases d <;> first
      | exact absurd rfl (hm _)
      | (simp only [υ, ξ hd, ξ hd', ν, ht.size, ai, b9, hn w, gf, hcap, mg, bf, ψ, hnew]
         cases base <;> simp)
theorem fH.qI{vs:List V}{xs:List ο}(h:fH c vs xs):xs.length=vs.length:=h.len.symm
theorem mY(hs:SR E c){t:Nat}{i:Ty}(hi:E.ty t=some i){cs:List V}{xs ys:List ο}(hv:fH c cs xs)(hok:cs.all V.aZ=true){len nc:Nat}(hl:xs.length=len*i.size)(hy:ys.length=(nc-len)*i.size)(hle:len<=nc) :
  ∃c',c'.w={ c.w with heap:=c.w.heap.push (.cells (xs++ys).toArray t (0,0)),drawn:=c.w.drawn+1 }/\c'.Z=c.Z++[.cells t cs false]/\Ext c c'/\SR E c' /\
   VR c' (.sl c.Z.length 0 len none) (.slice (some ⟨c.w.heap.size,0,none⟩) len nc):=by
 obtain⟨c',h1,h2,h3,h4,h5,h6,h7⟩:=Me (Cx.wS hs) hi (ys:=ys) (fH.mono c.kO hv) hok;refine⟨c',h1,h2,c.kO.trans h3,h4,?_⟩;have h5':c'.blk c.Z.length=c.w.heap.size:=h5;rw[<- h5'];refine .sl _ _ _ _ _ (by rw[h2];simp[Cx.drew]) hle (λk hk=>by cases hk) (λ_=>?_);have h6':c'.tot c.Z.length=xs.length+ys.length:=h6;have h7':c'.yP c.Z.length=i.size:=h7;rw[h6',h7',hl,hy,<- oe,Nat.add_sub_cancel' hle,dc]
theorem Mb{cs:List V}{a b:Nat}(h:cs.all V.aZ=true):((cs.drop a).take b).all V.aZ=true:=by
 simp only[eu]at h ⊢;exact λx hx=>h x (mf (jo hx))
theorem pL{a b:List V}(h:a.all V.aZ=true)(k:b.all V.aZ=true):(a++b).all V.aZ=true:=by simp_all
theorem Hw(he:cG P E)(hs:SR E c){ats:Array Nat}{ty:Nat}{sv xv v:V}{s x:ο}{σ':Sg}(h:append E c.Z ats sv xv=some (v,σ'))(hsv:VR c sv s)(hxv:VR c xv x) :
  gP E c ((gc ats ty #[s,x]).run P c.w) v σ':=by
 unfold append at h;split at h
 ·cases h
 rename_i st hat;split at h
 case h_2=>cases h
 rename_i e _ _ _ hsi;split at h
 ·cases h
 rename_i i hi;split at h
 ·cases h
 rename_i hpl;split at h
 ·cases h
 rename_i new n hel;simp only[fl,ql,Bool.not_eq_true,Bool.not_eq_false',beq_eq_false_iff_ne]at hpl
 have hz:∀xt,ats[1]?=some xt->∃xi,E.ty xt=some xi/\(∀k,xi.kd≠.int k):=by
  intro xt hx;have:=hpl.1;simp only[eD,hx]at this;split at this
  ·rename_i xi hxi;refine⟨xi,hxi,λk hk=>?_⟩;rw[hk]at this;cases this
  ·cases this
 obtain⟨news,hnV,hnl,hfc,hlo,hok⟩:=mH (P:=P) hs hel hxv;split at h
 ·
  rw[hsv.iF];split at h
  ·rename_i hn0;subst hn0;injection h with h;injection h with h1 h2;subst h1 h2;refine gP.same hs (x:=.slice none 0 0) ?_ (.inl .aG);rw[lJ he hsi rfl hi ats ty hat hz hlo (OF _) c.w (hfc c.w λ_ _=>rfl)]
  ·rename_i hn0;split at h
   ·rename_i hrm;injection h with h;injection h with h1 h2;subst h1 h2;obtain⟨nc,rest,g1,g2,g3⟩:=kD he hsi rfl hi ats ty hat hz (y:=.slice none 0 0) rfl hlo (by omega) (by simpa using Ii hrm (ro hn0)) c.w (olds:=[]) (λ_ _=>rfl) hfc;simp only[dc,cz]at g1 g2 g3;obtain⟨c',q1,q2,q3,q4,q5⟩:=mY hs hi hnV hok hnl g2 g1;exact⟨c',_,by rw[g3,q1],q2,q3,q4,q5⟩
   ·cases h
 ·
  rename_i g xs full;obtain⟨blk,off,sp,cap,sz,rfl,hi',hc,hf,hr⟩:=hsv.nZ;split at h
  ·rename_i hn0;subst hn0;injection h with h;injection h with h1 h2;subst h1 h2;have hnil:news=[]:=by cases news <;> simp_all
   subst hnil;refine gP.same hs (x:=.slice (some ⟨blk,off,sp⟩) xs.length cap) ?_ hsv;rw[lJ he hsi rfl hi ats ty hat hz hlo (by omega) c.w (hfc c.w λ_ _=>rfl)];simp[storeCells]
  ·rename_i hn0;split at h
   ·rename_i hcd;simp only[ak]at hcd;injection h with h;injection h with h1 h2;subst h1 h2;have hcap:=hf hcd.1.1;have hel2:elems c.Z i.size (.bV g xs full)=some (xs.flatten,xs.length):=by simp[elems,hcd.1.2]
    obtain⟨olds,hoV,hol,hofc,_,hook⟩:=mH (P:=P) hs hel2 hsv;obtain⟨nc,rest,g1,g2,g3⟩:=kD he hsi rfl hi ats ty hat hz rfl hlo (by omega) (sW hcd.2 (by omega)) c.w hofc hfc;obtain⟨c',q1,q2,q3,q4,q5⟩:=mY hs hi (hoV.append hnV) (pL hook hok) (by simp[hol,hnl,Nat.add_mul]) g2 g1;exact⟨c',_,by rw[g3,q1],q2,q3,q4,q5⟩
   ·cases h
 ·
  rename_i b off len cap;obtain⟨cap',rfl,hb,hl,hk1,hk2⟩:=hsv.mR;split at h
  case h_2=>cases h
  rename_i t cs ex hob;split at h
  ·cases h
  rename_i hform;simp only[gu,qc,ak,gp,af]at hform;obtain⟨⟨rfl,hle⟩,hrm⟩:=hform;obtain⟨arr,a1,a2,⟨i',a3,a3'⟩,a4,a5,a6,a7⟩:=(hs.obj b _ hob).jC;have hii:i'=i:=by rw[hi]at a3;exact(dh a3).symm
  subst hii;have hlv:live c.Z b:=⟨_,hob,rfl⟩;have hsz:0<i'.size:=ro hpl.2;have hel2:elems c.Z i'.size (.sl b off len cap)=some ((cs.drop off).take (len*i'.size),len):=by simp[elems,hob,hle]
  obtain⟨olds,hoV,hol,hofc,_,hook⟩:=mH (P:=P) hs hel2 hsv
  have inplace:len+n<=cap'->off+(len+n)*i'.size<=cs.length ->
    gP E c ((gc ats ty #[.slice (some ⟨c.blk b,off,none⟩) len cap',x]).run P c.w) (.sl b off (len+n) cap) (c.Z.set b (.cells t (setCells cs (off+len*i'.size) new) ex)):=by
   intro h1 h2;obtain⟨c',p1,p2,p3,p4⟩:=AQ (P:=P) hs hob (off:=off+len*i'.size) hnV hok (by have:=hnV.len;rw[oe]at h2;omega);refine⟨c',.slice (some ⟨c.blk b,off,none⟩) (len+n) cap',?_,p2,p3,p4,?_⟩
   ·rw[lJ he hsi rfl hi ats ty hat hz hlo h1 c.w (hfc c.w λ_ _=>rfl)];simp only[Addr.add_lit,p1,ν]
   ·rw[<- p3.blk b hb];exact .sl _ _ _ _ _ (ig hb p3.len) h1 hk1 (λe=>by rw[p3.yP b hb,p3.tot b hb];exact hk2 e)
  have realloc:cap'<len+n ->
    gP E c ((gc ats ty #[.slice (some ⟨c.blk b,off,none⟩) len cap',x]).run P c.w) (.sl c.Z.length 0 (len+n) none) (c.Z++[.cells t ((cs.drop off).take (len*i'.size)++new) false]):=by
   intro h1;obtain⟨nc,rest,g1,g2,g3⟩:=kD he hsi rfl hi ats ty hat hz rfl hlo h1 (sW hrm h1) c.w hofc hfc;obtain⟨c',q1,q2,q3,q4,q5⟩:=mY hs hi (hoV.append hnV) (pL hook hok) (by simp[hol,hnl,Nat.add_mul]) g2 g1;exact⟨c',_,by rw[g3,q1],q2,q3,q4,q5⟩
  split at h
  ·rename_i k;have hck:=hk1 k rfl;split at h
   ·rename_i hlek;split at h
    ·rename_i hfit;injection h with h;injection h with h1 h2;subst h1 h2;exact inplace (by omega) (by simpa using hfit)
    ·cases h
   ·rename_i hlek;injection h with h;injection h with h1 h2;subst h1 h2;exact realloc (by omega)
  ·have htot:=hk2 rfl;rw[a3']at htot;split at h
   ·rename_i hfit;injection h with h;injection h with h1 h2;subst h1 h2;have hfit':off+(len+n)*i'.size<=cs.length:=by simpa using hfit
    refine inplace ?_ hfit';have:(len+n)*i'.size<=cap'*i'.size:=by omega
    exact Nat.le_of_mul_le_mul_right this hsz
   ·rename_i hfit;have hfit':¬ off+(len+n)*i'.size<=cs.length:=by simpa using hfit
    split at h
    ·rename_i hex;injection h with h;injection h with h1 h2;subst h1 h2;refine realloc ?_;have:=a5 hex;apply Nat.lt_of_not_le;intro hge;have:(len+n)*i'.size<=cap'*i'.size:=gk _ hge;omega
    ·split at h
     ·rename_i hoff;subst hoff;injection h with h;injection h with h1 h2;subst h1 h2;by_cases hin:len+n<=cap'
      ·
       obtain⟨vals,hvals⟩:∃vals:List ο,vals=arr.toList.take (len*i'.size)++news++arr.toList.drop (len*i'.size+news.length):=⟨_,rfl⟩;have hnv:=hnV.len
       have hroom:len*i'.size+news.length<=arr.size:=by
        have:(len+n)*i'.size<=cap'*i'.size:=gk _ hin;rw[oe]at this;omega
       have hrun:=run_storeCells_at (P:=P) (c.blk b) 0 t news (len*i'.size) arr c.w a1 (by omega) (hnV.lQ hok);rw[wH a1]at hrun;simp only[dc]at hrun;rw[<- hvals]at hrun;have hvl:vals.toArray.size=arr.size:=by rw[hvals];simp;omega
       let c1:Cx:=c.put b (.cells vals.toArray t (0,0)) .dead
       have e1:Ext c c1:=Cx.mU hlv _ _;have s1:SR E c1:=Cx.uZ hs hlv _ _ trivial
       let c2:Cx:={ c1 with Z:=c1.Z++[.cells t (cs.take (len*i'.size)++new) false],blk:=λx=>if x=c.Z.length then c.blk b else c.blk x,tot:=λx=>if x=c.Z.length then c.tot b else c.tot x,yP:=λx=>if x=c.Z.length then c.yP b else c.yP x }
       have hln:c1.Z.length=c.Z.length:=by simp[c1,Cx.put]
       have liv:∀b',live c2.Z b'->(live c.Z b'/\b'≠b/\b'<c.Z.length)\/b'=c.Z.length:=by
        intro b' hb';rcases iG hb' with hb' | ⟨hb',_⟩
        ·have:=gI hb';exact .inl ⟨this.1,this.2,eC this.1⟩
        ·exact .inr (by rw[hb',hln])
       have e2:Ext c c2:=by
        refine⟨e1.size,λk hk ho=>⟨(e1.keep k hk ho).1,?_⟩,by simp[c2,c1,Cx.put],λb' hb'=>by simp[c2,aw hb'],λb' hb'=>by simp[c2,aw hb'],λb' hb'=>by simp[c2,aw hb'],rfl,rfl,rfl,rfl⟩;rintro⟨b',hl',hbk⟩;rcases liv b' hl' with⟨g1,_,g3⟩ | rfl
        ·exact ho ⟨b',g1,by simpa [c2,aw g3]using hbk⟩
        ·exact ho ⟨b,hlv,by simpa [c2]using hbk⟩
       have hV2:fH c2 (cs.take (len*i'.size)++new) (arr.toList.take (len*i'.size)++news):=by
        have:=(a6.take (len*i'.size)).append hnV;rw[nr,mq (by omega)]at this;exact fH.mono e2 this
       have hheap:c2.w.heap[c.blk b]?=some (.cells vals.toArray t (0,0)):=by
        have:=jI a1;simp[c2,c1,Cx.put,this]
       have s2:SR E c2:=by
        refine⟨λb1 b2 h1 h2 e=>?_,λb' o' hb'=>?_,λb' hl'=>?_,λk hk=>s1.jF k hk,qG e2 hs.gl⟩
        ·rcases liv b1 h1 with⟨g1,g2,g3⟩ | rfl <;> rcases liv b2 h2 with⟨k1,k2,k3⟩ | rfl
         ·exact hs.inj b1 b2 g1 k1 (by simpa [c2,aw g3,aw k3]using e)
         ·exact absurd (hs.inj b1 b g1 hlv (by simpa [c2,aw g3]using e)) g2
         ·exact absurd (hs.inj b2 b k1 hlv (by simpa [c2,aw k3]using e.symm)) k2
         ·rfl
        ·by_cases hl':live c2.Z b'
         ·rcases liv b' hl' with⟨g1,g2,g3⟩ | rfl
          ·have hb2:(c.Z.set b .dead++[.cells t (cs.take (len*i'.size)++new) false])[b']?=some o':=hb';rw[au (by simpa using g3),aa (λe=>g2 e.symm)]at hb2;refine(hs.obj b' o' hb2).mono e2 g3 ?_;have:c.blk b≠c.blk b':=λe=>g2 (hs.inj b b' hlv g1 e).symm;simp[c2,c1,Cx.put,this]
          ·have hb2:(c.Z.set b .dead++[.cells t (cs.take (len*i'.size)++new) false])[c.Z.length]?=some o':=hb';rw[bg (by simp)]at hb2;simp at hb2;subst hb2;refine uN.vV (arr:=vals.toArray) (xs:=arr.toList.take (len*i'.size)++news) (ys:=arr.toList.drop (len*i'.size+news.length)) ?_ ?_ ⟨i',hi,?_⟩ (λh=>by cases h) (by simp[hvals]) hV2 (pL (Mb (a:=0) a7) hok)
           ·simpa [c2]using hheap
           ·simp only[c2,bf];rw[hvl,a2]
           ·simp only[c2,bf];exact a3'
         ·cases o' with
          |dead=>exact gS
          |_=>exact(hl' ⟨_,hb',rfl⟩).elim
        ·rcases liv b' hl' with⟨g1,_,g3⟩ | rfl
         ·have:=hs.nT b' g1;simpa [c2,c1,Cx.put,aw g3]using this
         ·have:=hs.nT b hlv;simpa [c2,c1,Cx.put]using this
       refine⟨c2,.slice (some ⟨c.blk b,0,none⟩) (len+n) cap',?_,rfl,e2,s2,?_⟩
       ·rw[lJ he hsi rfl hi ats ty hat hz hlo hin c.w (hfc c.w λ_ _=>rfl)]
        have hst:(storeCells ((⟨c.blk b,0,none⟩:Addr).add (len*i'.size)) news 0).run P c.w=(storeCells ⟨c.blk b,0,none⟩ news (len*i'.size)).run P c.w:=by
         have hrun':=run_storeCells_at (P:=P) (c.blk b) (len*i'.size) t news 0 arr c.w a1 (by omega) (hnV.lQ hok);rw[wH a1]at hrun';simp only[l6]at hrun';rw[<- hvals]at hrun';rw[Addr.add_lit,dc,hrun',hrun]
        dsimp only;rw[hst,hrun];rfl
       ·have:c2.blk c.Z.length=c.blk b:=by simp[c2]
        rw[<- this];refine .sl _ _ _ _ _ (by simp[c2,c1,Cx.put]) hin (λk hk=>by cases hk) (λ_=>?_);simp only[c2,bf];rw[a3'];exact htot
      ·
       obtain⟨nc,rest,g1,g2,g3⟩:=kD he hsi rfl hi ats ty hat hz rfl hlo (by omega) (sW hrm (by omega)) c.w hofc hfc;have e1:=c.vL b;obtain⟨c',q1,q2,q3,q4,q5⟩:=mY (Cx.Mw hs b) hi (fH.mono e1 (hoV.append hnV)) (pL hook hok) (len:=len+n) (by simp[hol,hnl,Nat.add_mul]) g2 g1;refine⟨c',.slice (some ⟨c.w.heap.size,0,none⟩) (len+n) nc,by rw[g3,q1];rfl,?_,e1.trans q3,q4,?_⟩
       ·rw[q2];simp[Cx.kill]
       ·simpa [Cx.kill]using q5
     ·cases h
 ·cases h
end
end
end Go.Ax
end
