/- Part 0 of the proof. -/
import Derived.Test.YtmbikbgdbbcbmaaGreatDoorY
import Derived.Calls
import Derived.Below
import Derived.MapKept
import Derived.Laws.CopyRow
import Derived.Laws.StructEq
import Derived.Laws.Cells
import Derived.Laws.Strings
import Derived.Laws.Strings2
import Derived.Laws.Slices
set_option maxHeartbeats 8000000
set_option linter.unusedVariables false
section
namespace Go.Ax
open Go
inductive V where
 |bool (b:Bool) | int (k:IntKind) (n:Int) | str (s:List Nat)
 |fJ | aB | b_ | rK | rJ
 |bT (g:Bool) (xs:List (List V)) (full:Bool)
 |dH (g:Bool) (cs:List V)
 |imp (g:Bool) (es:List (V × V))
 |ref (b off:Nat)
 |sl (b off len:Nat) (cap:Option Nat)
 |mp (b:Nat)
 |fn (f:Nat) (first cap:List V)
 |agg (cs:List V) | gB (vs:List V)
 |AG (t:Nat) (v:V)
 |undef
 deriving Inhabited
inductive O where
 |dead
 |cells (t:Nat) (cs:List V) (exact:Bool)
 |map (es:List (V × V))
 |Je (s:List Nat) (pos:Nat)
 |sV (left:List (V × V)) (cur:Option (V × V))
 deriving Inhabited
inductive Kd where
 |bool | int (k:IntKind) | str | ptr (e:Nat) | sl (e:Nat) | arr (n e:Nat) | map (k e:Nat)
 |jR (fs:List (Nat × Nat)) | func | AG | other
 deriving Inhabited
structure Ty where
 kd:Kd
 size:Nat
 bytes:Nat
 zero:V
 deriving Inhabited
structure Fn where
 code:Code
 ntmps:Nat
 results:List ResultVar
 deriving Inhabited
inductive FT where
 |leaf
 |node (v:V) (l r:FT)
 deriving Inhabited
def FT.get:FT->Nat->V
 | .leaf,_=>.undef
 | .node v l r,t=>match Nat.beq t 0 with
  |true=>v
  |false=>match Nat.beq (Nat.mod t 2) 1 with
   |true=>l.get (Nat.div t 2)
   |false=>r.get (Nat.sub (Nat.div t 2) 1)
def FT.put (v:V):Nat->FT->Nat->FT
 |0,f,_=>f
 |k+1,.leaf,t=>match Nat.beq t 0 with
  |true=>.node v .leaf .leaf
  |false=>match Nat.beq (Nat.mod t 2) 1 with
   |true=>.node .undef (FT.put v k .leaf (Nat.div t 2)) .leaf
   |false=>.node .undef .leaf (FT.put v k .leaf (Nat.sub (Nat.div t 2) 1))
 |k+1,.node u l r,t=>match Nat.beq t 0 with
  |true=>.node v l r
  |false=>match Nat.beq (Nat.mod t 2) 1 with
   |true=>.node u (FT.put v k l (Nat.div t 2)) r
   |false=>.node u l (FT.put v k r (Nat.sub (Nat.div t 2) 1))
structure Fr where
 n:Nat
 f:FT
 deriving Inhabited
def Fr.get (fr:Fr) (t:Nat):Option V:=match Nat.blt t fr.n with
 |true=>some (fr.f.get t)
 |false=>none
def Fr.put (fr:Fr) (t:Nat) (v:V):Fr:=match Nat.blt t fr.n with
 |true=>⟨fr.n,FT.put v (t+1) fr.f t⟩
 |false=>fr
def Fr.fill (fr:Fr) (i:Nat):List V->Fr
 | []=>fr
 |v::r=>(fr.put i v).fill (i+1) r
def Fr.init (n:Nat) (args:List V):Option Fr:=match Nat.ble args.length n with
 |true=>some (Fr.fill ⟨n,.leaf⟩ 0 args)
 |false=>none
abbrev Sg:=List O
inductive Mode where
 |fD | move | shared
 deriving Inhabited
structure Env where
 ty:Nat->Option Ty
 fn:Nat->Option Fn
 mode:Nat->Mode
 spec:Nat->Option (List V->Option V)
 hspec:Nat->Option (List V->Sg->Option (V × Sg))
 eqs:Nat->Option (List Kd)
 gl:Nat->Option (Obj->Prop)
 DY:Nat->Bool
def no {α:Type} (_:String):Option α:=none
def lo:IntKind->Int
 | .i8=>-128 | .i16=>-32768 | .i32=>-2147483648 | .i64=>-9223372036854775808 | _=>0
def hi:IntKind->Int
 | .i8=>127 | .i16=>32767 | .i32=>2147483647 | .i64=>9223372036854775807
 | .u8=>255 | .u16=>65535 | .u32=>4294967295 | .u64=>18446744073709551615
def hiN:IntKind->Nat
 | .i8=>127 | .i16=>32767 | .i32=>2147483647 | .i64=>9223372036854775807
 | .u8=>255 | .u16=>65535 | .u32=>4294967295 | .u64=>18446744073709551615
def Zt:IntKind->Nat
 | .i8=>128 | .i16=>32768 | .i32=>2147483648 | .i64=>9223372036854775808 | _=>0
def wr (k:IntKind) (n:Int):Int:=match n with
 | .ofNat m=>match Nat.ble m (hiN k) with
  |true=>.ofNat m
  |false=>k.wrap n
 | .negSucc m=>match Nat.blt m (Zt k) with
  |true=>.negSucc m
  |false=>k.wrap n
theorem Cd (k:IntKind) (n:Int):wr k n=if decide (lo k<=n)&&decide (n<=hi k) then n else k.wrap n:=by
 cases n with
 |ofNat m=>
  simp only[wr]
  cases h:Nat.ble m (hiN k) with
  |true=>
   rw[Nat.ble_eq]at h
   rw[b8]
   simp only[ah,IT]
   cases k <;> simp only[lo,hi,hiN]at h ⊢ <;> constructor <;> first | omega | (have:(0:Int)<=Int.ofNat m:=Int.natCast_nonneg m;have e:Int.ofNat m=(m:Int):=rfl;omega)
  |false=>
   have h:¬ m<=hiN k:=λg=>by rw[<- Nat.ble_eq,h]at g;cases g
   rw[ay]
   simp only[ah,IT]
   rintro⟨_,g⟩
   have e:Int.ofNat m=(m:Int):=rfl
   cases k <;> simp only[hi,hiN]at h g <;> omega
 |negSucc m=>
  simp only[wr]
  cases h:Nat.blt m (Zt k) with
  |true=>
   rw[od]at h
   rw[b8]
   simp only[ah,IT]
   cases k <;> simp only[lo,hi,Zt]at h ⊢ <;> constructor <;> omega
  |false=>
   have h:¬ m<Zt k:=λg=>by rw[<- od,h]at g;cases g
   rw[ay]
   simp only[ah,IT]
   rintro⟨g,_⟩
   cases k <;> simp only[lo,Zt]at h g <;> omega
def WO:Int->Int->Bool
 | .ofNat a,.ofNat b=>Nat.beq a b
 | .negSucc a,.negSucc b=>Nat.beq a b
 |_,_=>false
def leI:Int->Int->Bool
 | .ofNat a,.ofNat b=>Nat.ble a b
 | .negSucc a,.negSucc b=>Nat.ble b a
 | .negSucc _,.ofNat _=>true
 | .ofNat _,.negSucc _=>false
def ltI:Int->Int->Bool
 | .ofNat a,.ofNat b=>Nat.blt a b
 | .negSucc a,.negSucc b=>Nat.blt b a
 | .negSucc _,.ofNat _=>true
 | .ofNat _,.negSucc _=>false
def KF:Int->Int->Int
 | .ofNat a,.ofNat b=>.ofNat (Nat.add a b)
 |a,b=>a+b
def RR:Int->Int->Int
 | .ofNat a,.ofNat b=>match Nat.ble b a with
  |true=>.ofNat (Nat.sub a b)
  |false=>.ofNat a - .ofNat b
 |a,b=>a-b
theorem GF (a b:Int):WO a b=decide (a=b):=by
 cases a <;> cases b <;> simp only[WO] <;> rw[dn] <;> simp <;> omega
theorem P8 (a b:Int):leI a b=decide (a<=b):=by
 cases a <;> cases b <;> simp only[leI] <;> rw[dn] <;> simp <;> omega
theorem jA (a b:Int):ltI a b=decide (a<b):=by
 cases a <;> cases b <;> simp only[ltI] <;> rw[dn] <;> simp <;> omega
theorem GU (a b:Int):KF a b=a+b:=by
 cases a <;> cases b <;> rfl
theorem FW (a b:Int):RR a b=a-b:=by
 cases a <;> cases b <;> simp only[RR]
 split
 ·rename_i h
  rw[Nat.ble_eq]at h
  show ((Nat.sub _ _:Nat):Int)=_
  have e1:∀m:Nat,Int.ofNat m=(m:Int):=λ_=>rfl
  rw[e1,e1,Nat.sub_eq,Int.ofNat_sub h]
 ·rfl
def bytes (s:ByteArray):List Nat:=s.data.toList.map UInt8.toNat
def sE (s:List Nat):ByteArray:=⟨(s.map UInt8.ofNat).toArray⟩
def slt:List Nat->List Nat->Bool
 |_,[]=>false
 | [],_::_=>true
 |a::x,b::y=>match Nat.blt a b with
  |true=>true
  |false=>match Nat.beq a b with
   |true=>slt x y
   |false=>false
theorem yS (a b:Nat) (x y:List Nat):slt (a::x) (b::y)=(decide (a<b)||(decide (a=b)&&slt x y)):=by
 simp only[slt]
 cases h:Nat.blt a b with
 |true=>rw[od]at h;simp[h]
 |false=>
  have g:¬ a<b:=λg=>by rw[<- od,h]at g;cases g
  cases h2:Nat.beq a b with
  |true=>have:=j6 h2;simp[this]
  |false=>have:=Nat.ne_of_beq_eq_false h2;simp[this,g]
def seq:List Nat->List Nat->Bool
 | [],[]=>true
 |a::x,b::y=>match Nat.beq a b with
  |true=>seq x y
  |false=>false
 |_,_=>false
theorem CF (a b:Nat) (x y:List Nat):seq (a::x) (b::y)=(decide (a=b)&&seq x y):=by
 simp only[seq]
 cases h2:Nat.beq a b with
 |true=>have:=j6 h2;simp[this]
 |false=>have:=Nat.ne_of_beq_eq_false h2;simp[this]
def V.cells:V->List V
 | .agg cs=>cs
 |v=>[v]
def V.aW:V->Bool
 | .agg _ | .gB _ | .undef=>false
 |_=>true
def bK:Value->Option V
 | .bool b=>some (.bool b)
 | .int k n=>some (.int k n)
 | .string s=>some (.str (bytes s))
 | .pointer none=>some .fJ
 | .slice none 0 0=>some .aB
 | .map none=>some .b_
 | .nilFunc=>some .rK
 | .nilIface=>some .rJ
 |_=>none
def ofValues:List Value->Option (List V)
 | []=>some []
 |x::r=>match bK x,ofValues r with
  |some v,some l=>some (v::l)
  |_,_=>none
def ofValue:Value->Option V
 | .agg cs=>match ofValues cs.toList with
  |some l=>some (.agg l)
  |none=>none
 |v=>bK v
def bU (g:Bool):V->Bool
 | .bT h _ _ | .dH h _ | .imp h _=>g || !h
 | .bool _ | .int .. | .str _ | .fJ | .aB | .b_ | .rK | .rJ=>true
 | .fn _ [] []=>true
 |_=>false
def plainCell:V->Bool
 | .bool _ | .int .. | .str _=>true
 |_=>false
def rows (sz:Nat):Nat->List V->List (List V)
 |0,_=>[]
 |n+1,cs=>cs.take sz::rows sz n (cs.drop sz)
def aU {α β:Type} (f:α->Option β):List α->Option (List β)
 | []=>some []
 |x::r=>match f x with
  |some y=>match aU f r with
   |some l=>some (y::l)
   |none=>none
  |none=>none
def bI (Z:Sg) (ty:Nat->Option Ty) (g:Bool):Nat->V->Option V
 |0,_=>no "snap: fuel"
 |n+1,v=>
  let rec1 (v:V):Option V:=match bI Z ty g n v with
   |some v=>if bU g v then some v else no "snap: borrowed"
   |none=>none
  match v with
  | .ref b off=>match Z[b]? with
   |some (.cells _ cs _)=>match aU rec1 (cs.drop off) with
    |some l=>some (.dH g l)
    |none=>none
   |_=>no "snap: dead ref"
  | .sl b off len cap=>match Z[b]? with
   |some (.cells t cs ex)=>match ty t with
    |some i=>if off+len*i.size<=cs.length then match aU rec1 ((cs.drop off).take (len*i.size)) with
     |some l=>some (.bT g (rows i.size len l) (match cap with | some k=>k==len | none=>ex&&decide (0<i.size)&&(off+len*i.size==cs.length)))
     |none=>none
     else no "snap: short"
    |none=>no "snap: type"
   |_=>no "snap: dead sl"
  | .mp b=>match Z[b]? with
   |some (.map es)=>match aU (λ(e:V × V)=>if e.1.cells.all plainCell then (match e.2 with
      | .agg cs=>match aU rec1 cs with
       |some cs=>some (e.1,V.agg cs)
       |none=>none
      |v=>match rec1 v with
       |some v=>some (e.1,v)
       |none=>none) else none) es with
    |some l=>some (.imp g l)
    |none=>none
   |_=>no "snap: dead map"
  | .fn f [] []=>some (.fn f [] [])
  | .fn ..=>no "snap: a closure in memory"
  | .agg _ | .gB _ | .undef | .AG ..=>no "snap: odd cell"
  |v=>some v
def eE:Nat:=12
def aQ (Z:Sg) (ty:Nat->Option Ty) (g:Bool):V->Option V
 | .fn f a b=>match aU one a,aU one b with
  |some a,some b=>some (.fn f a b)
  |_,_=>none
 | .agg cs=>match aU one cs with
  |some l=>some (.agg l)
  |none=>none
 | .AG t v=>match one v with
  |some v=>some (.AG t v)
  |none=>none
 |v=>one v
where
 one (v:V):Option V:=match bI Z ty g eE v with
  |some v=>if bU g v then some v else no "snap: borrowed"
  |none=>none
def bW (Z:Sg) (ty:Nat->Option Ty) (g:Bool):V->Option V
 | .gB vs=>match aU (aQ Z ty g) vs with
  |some l=>some (.gB l)
  |none=>none
 |v=>aQ Z ty g v
def gP (Z:Sg):Nat->V->List Nat
 |0,_=>[]
 |n+1,v=>match v with
  | .ref b _ | .sl b _ _ _=>b::match Z[b]? with
   |some (.cells _ cs _)=>cs.flatMap (gP Z n)
   |_=>[]
  | .mp b=>b::match Z[b]? with
   |some (.map es)=>es.flatMap λe=>e.2.cells.flatMap (gP Z n)
   |_=>[]
  |_=>[]
def mK (Z:Sg):V->List Nat
 | .fn _ a b=>a.flatMap (gP Z eE)++b.flatMap (gP Z eE)
 | .agg cs=>cs.flatMap (gP Z eE)
 | .AG _ v=>gP Z eE v
 |v=>gP Z eE v
def kill (Z:Sg) (l:List Nat):Sg:=l.foldl (λZ b=>Z.set b .dead) Z
def isAgg:Kd->Bool
 | .jR _ | .arr ..=>true
 |_=>false
def loadAt (E:Env) (Z:Sg) (t:Nat) (a:V):Option V:=
 match E.ty t with
 |none=>no "load: type"
 |some i=>
  match a with
  | .ref b off=>match Z[b]? with
   |some (.cells _ cs _)=>
    if isAgg i.kd then (if off+i.size<=cs.length then some (.agg ((cs.drop off).take i.size)) else no "load: short")
    else cs[off]?
   |_=>no "load: dead"
  | .dH _ cs=>
   if isAgg i.kd then (if i.size<=cs.length then some (.agg (cs.take i.size)) else no "load: short")
   else cs.head?
  |_=>no "load: no address"
def setCells (cs:List V) (off:Nat) (vs:List V):List V:=cs.take off++vs++cs.drop (off+vs.length)
def storeAt (E:Env) (Z:Sg) (t:Nat) (a v:V):Option Sg:=
 match E.ty t,a with
 |some i,.ref b off=>match Z[b]? with
  |some (.cells u cs ex)=>
   if v.cells.length==i.size&&v.cells.all V.aW&&decide (off+i.size<=cs.length) then some (Z.set b (.cells u (setCells cs off v.cells) ex))
   else no "store: form"
  |_=>no "store: dead"
 |_,_=>no "store: no address"
def fill (place:Nat->Option (Nat × Nat)) (cells:List V):List (Nat × V)->Option (List V)
 | []=>some cells
 |(i,v)::rest=>match place i with
  |none=>none
  |some (off,size)=>
   if decide (v.cells.length≠size)||decide (off+v.cells.length > cells.length) || !v.cells.all V.aW then none
   else fill place (setCells cells off v.cells) rest
def placeOf (E:Env) (fs:List (Nat × Nat)) (j:Nat):Option (Nat × Nat):=
 match fs[j]? with
 |some (off,ft)=>match E.ty ft with
  |some i=>some (off,i.size)
  |none=>none
 |none=>none
def fG (n:Nat) (z:List V):List V:=match n with
 |0=>[]
 |n+1=>z++fG n z
def eqs:List Kd->List V->List V->Option Bool
 | [],[],[]=>some true
 | .bool::sh,.bool x::a,.bool y::b=>match eqs sh a b with
  |some q=>some ((x==y)&&q)
  |none=>none
 | .int k::sh,.int k1 x::a,.int k2 y::b=>if k1=k/\k2=k then match eqs sh a b with
  |some q=>some (decide (x=y)&&q)
  |none=>none
  else none
 | .str::sh,.str x::a,.str y::b=>match eqs sh a b with
  |some q=>some (seq x y&&q)
  |none=>none
 |_,_,_=>none
def fB (E:Env) (t:Nat) (x y:V):Option Bool:=
 match E.ty t with
 |some { kd:=.str,.. }=>match x,y with
  | .str a,.str b=>some (seq a b)
  |_,_=>none
 |some { kd:=.int _,.. }=>match x,y with
  | .int k a,.int k' b=>if k=k' then some (decide (a=b)) else none
  |_,_=>none
 |some { kd:=.jR _,.. }=>match E.eqs t,x,y with
  |some sh,.agg a,.agg b=>eqs sh a b
  |_,_,_=>none
 |_=>none
def iR (eq:V->V->Option Bool) (k:V):List (V × V)->Option (Option V)
 | []=>some none
 |(k',v)::r=>match eq k k' with
  |some true=>some (some v)
  |some false=>iR eq k r
  |none=>none
def lA (eq:V->V->Option Bool) (k v:V):List (V × V)->Option (List (V × V))
 | []=>some [(k,v)]
 |(k',v')::r=>match eq k k' with
  |some true=>some ((k,v)::r)
  |some false=>match lA eq k v r with
   |some r=>some ((k',v')::r)
   |none=>none
  |none=>none
def kY (E:Env) (t:Nat) (xD:Bool) (x y:V):Option Bool:=
 match E.ty t with
 |none=>none
 |some i=>
  match i.kd,x,y with
  | .bool,.bool a,.bool b=>some (a==b)
  | .ptr _,.fJ,.fJ=>some true
  | .ptr _,.fJ,.ref .. | .ptr _,.fJ,.dH .. | .ptr _,.ref ..,.fJ | .ptr _,.dH ..,.fJ=>some false
  | .ptr e,.ref b o,.ref b' o'=>match E.ty e with
   |some ei=>if b=b'/\¬ ei.size=0 then some (decide (o=o')) else none
   |none=>none
  | .sl _,.aB,.aB=>some true
  | .sl _,.aB,.bT .. | .sl _,.aB,.sl .. | .sl _,.bT ..,.aB | .sl _,.sl ..,.aB=>some false
  | .map ..,.b_,.b_=>some true
  | .map ..,.b_,.imp .. | .map ..,.b_,.mp .. | .map ..,.imp ..,.b_ | .map ..,.mp ..,.b_=>some false
  | .func,.rK,.rK=>some true
  | .func,.rK,.fn .. | .func,.fn ..,.rK=>some false
  | .AG,.rJ,.rJ=>if xD then some true else none
  | .AG,.rJ,.AG .. | .AG,.AG ..,.rJ=>some false
  | .jR _,.agg a,.agg b=>match E.eqs t with
   |some sh=>eqs sh a b
   |none=>none
  |_,_,_=>none
def arith (op:BinOp) (k:IntKind) (a b:Int):Option V:=
 match op with
 | .add=>some (.int k (wr k (KF a b)))
 | .sub=>some (.int k (wr k (RR a b)))
 | .mul=>some (.int k (wr k (a*b)))
 | .quo=>match WO b 0 with
  |true=>none
  |false=>some (.int k (wr k (a.tdiv b)))
 | .rem=>match WO b 0 with
  |true=>none
  |false=>some (.int k (a.tmod b))
 | .and=>some (.int k (k.wrap (BitVec.ofInt k.bits a &&& BitVec.ofInt k.bits b).toNat))
 | .or=>some (.int k (k.wrap (BitVec.ofInt k.bits a ||| BitVec.ofInt k.bits b).toNat))
 | .xor=>some (.int k (k.wrap (BitVec.ofInt k.bits a ^^^ BitVec.ofInt k.bits b).toNat))
 | .andNot=>some (.int k (k.wrap (BitVec.ofInt k.bits a &&& ~~~ BitVec.ofInt k.bits b).toNat))
 | .eql=>some (.bool (WO a b))
 | .neq=>some (.bool (!WO a b))
 | .lss=>some (.bool (ltI a b))
 | .leq=>some (.bool (leI a b))
 | .gtr=>some (.bool (ltI b a))
 | .geq=>some (.bool (leI b a))
 |_=>none
theorem eU (op:BinOp) (k:IntKind) (a b:Int):arith op k a b=(match op with
 | .add=>some (.int k (wr k (a+b)))
 | .sub=>some (.int k (wr k (a-b)))
 | .mul=>some (.int k (wr k (a*b)))
 | .quo=>if b=0 then none else some (.int k (wr k (a.tdiv b)))
 | .rem=>if b=0 then none else some (.int k (a.tmod b))
 | .and=>some (.int k (k.wrap (BitVec.ofInt k.bits a &&& BitVec.ofInt k.bits b).toNat))
 | .or=>some (.int k (k.wrap (BitVec.ofInt k.bits a ||| BitVec.ofInt k.bits b).toNat))
 | .xor=>some (.int k (k.wrap (BitVec.ofInt k.bits a ^^^ BitVec.ofInt k.bits b).toNat))
 | .andNot=>some (.int k (k.wrap (BitVec.ofInt k.bits a &&& ~~~ BitVec.ofInt k.bits b).toNat))
 | .eql=>some (.bool (decide (a=b)))
 | .neq=>some (.bool (!decide (a=b)))
 | .lss=>some (.bool (decide (a<b)))
 | .leq=>some (.bool (decide (a<=b)))
 | .gtr=>some (.bool (decide (b<a)))
 | .geq=>some (.bool (decide (b<=a)))
 |_=>none):=by
 cases op <;> simp only[arith,GF,jA,P8,GU,FW]
 all_goals
  by_cases h:b=0
  ·simp[h]
  ·simp[h]
def shift (op:BinOp) (k:IntKind) (a b:Int):Option V:=
 if b<0 then none else
 match op with
 | .shl=>some (.int k (k.wrap (a*2 ^ (min b.toNat k.bits))))
 | .shr=>some (.int k (a.fdiv (2 ^ (min b.toNat k.bits))))
 |_=>none
def tU (op:BinOp) (a b:List Nat):Option V:=
 match op with
 | .add=>if decide (a.length+b.length<=9223372036854775807) then some (.str (a++b)) else none
 | .eql=>some (.bool (seq a b))
 | .neq=>some (.bool (!seq a b))
 | .lss=>some (.bool (slt a b))
 | .leq=>some (.bool (slt a b||seq a b))
 | .gtr=>some (.bool (!(slt a b||seq a b)))
 | .geq=>some (.bool (!slt a b))
 |_=>none
def bin (E:Env) (op:BinOp) (t:Nat) (xD:Bool) (x y:V):Option V:=
 match x,y with
 | .int k a,.int k' b=>
  match op with
  | .shl | .shr=>shift op k a b
  |_=>if k=k' then arith op k a b else none
 | .str a,.str b=>tU op a b
 |x,y=>match op with
  | .eql=>(kY E t xD x y).map .bool
  | .neq=>(kY E t xD x y).map (λb=>.bool (!b))
  |_=>none
def unop (op:UnOp) (x:V):Option V:=
 match op,x with
 | .not,.bool b=>some (.bool !b)
 | .neg,.int k n=>some (.int k (wr k (0-n)))
 |_,_=>none
def u8s (s:List Nat):List V:=s.map λ(c:Nat)=>.int .u8 (c:Int)
def HL:List V->Option (List Nat)
 | []=>some []
 | .int .u8 n::r=>if decide (0<=n)&&decide (n<256) then (match HL r with | some l=>some (n.toNat::l) | none=>none) else none
 |_=>none
def BB (sz:Nat):List (List V)->Bool
 | []=>true
 |r::_=>r.length==sz
def elems (Z:Sg) (size:Nat):V->Option (List V × Nat)
 | .aB=>some ([],0)
 | .str s=>if size=1 then some (u8s s,s.length) else none
 | .bT _ xs _=>if BB size xs then some (xs.flatten,xs.length) else none
 | .sl b off len _=>match Z[b]? with
  |some (.cells _ cs _)=>if off+len*size<=cs.length then some ((cs.drop off).take (len*size),len) else none
  |_=>none
 |_=>none
def roomy (need bytes:Nat):Bool:=decide ((2*need+256)*(bytes+1)<=281474976710656)
def lF (need bytes:Nat):Bool:=decide (need*(bytes+1)<=281474976710656)
def nZ:Kd->Bool
 | .int _=>true
 |_=>false
def eY (E:Env) (ats:Array Nat):Bool:=
 match ats[1]? with
 |none=>true
 |some xt=>match E.ty xt with
  |some xi=>!nZ xi.kd
  |none=>false
def append (E:Env) (Z:Sg) (argTypes:Array Nat) (s x:V):Option (V × Sg):=
 match argTypes[0]? with
 |none=>none
 |some st=>match E.ty st with
  |some { kd:=.sl e,.. }=>match E.ty e with
   |none=>none
   |some i=>
    if !eY E argTypes||i.size==0 then no "append: size" else
    match elems Z i.size x with
    |none=>no "append: what"
    |some (new,n)=>
     match s with
     | .aB=>if n=0 then some (.aB,Z) else if lF n i.bytes then some (.sl Z.length 0 n none,Z++[.cells e new false]) else no "append: room"
     | .bT _ xs full=>
      if n=0 then some (s,Z)
      else if full&&BB i.size xs&&roomy (xs.length+n) i.bytes then some (.sl Z.length 0 (xs.length+n) none,Z++[.cells e (xs.flatten++new) false])
      else no "append: shared"
     | .sl b off len cap=>match Z[b]? with
      |some (.cells t cs ex)=>
       if !(t==e&&decide (off+len*i.size<=cs.length)&&roomy (len+n) i.bytes) then no "append: form" else
       match cap with
       |some k=>
        if len+n<=k then (if off+(len+n)*i.size<=cs.length then some (.sl b off (len+n) cap,Z.set b (.cells t (setCells cs (off+len*i.size) new) ex)) else no "append: cap")
        else some (.sl Z.length 0 (len+n) none,Z++[.cells e ((cs.drop off).take (len*i.size)++new) false])
       |none=>
        if off+(len+n)*i.size<=cs.length then some (.sl b off (len+n) none,Z.set b (.cells t (setCells cs (off+len*i.size) new) ex))
        else if ex then some (.sl Z.length 0 (len+n) none,Z++[.cells e ((cs.drop off).take (len*i.size)++new) false])
        else if off=0 then some (.sl Z.length 0 (len+n) none,Z.set b .dead++[.cells e (cs.take (len*i.size)++new) false])
        else no "append: off"
      |_=>no "append: dead"
     |_=>no "append: form"
  |_=>none
def bound (len:Nat):Option V->Nat->Option Nat
 |none,d=>some d
 |some (.int _ i),_=>if decide (0<=i)&&decide (i<=len) then some i.toNat else none
 |_,_=>none
def qX (mx:Option V) (m h:Nat) (full:Bool) (n:Nat):Bool:=
 match mx with
 |some _=>m==h
 |none=>full&&h==n
def G9 (n off size:Nat) (cap:Option Nat):Nat:=
 match cap with
 |some k=>if k<=(n-off) / size then k else (n-off) / size
 |none=>(n-off) / size
def slice (E:Env) (Z:Sg) (t:Nat) (x:V) (low high max:Option V):Option V:=
 match E.ty t with
 |none=>none
 |some ti=>
 match ti.kd,x with
 | .str,.str s=>if max.isSome then none else
  match bound s.length high s.length with
  |none=>none
  |some h=>match bound h low 0 with
   |none=>none
   |some l=>some (.str ((s.drop l).take (h-l)))
 | .sl e,.aB=>match E.ty e,bound 0 max 0,max.isSome&&high.isNone with
  |some _,some m,false=>match bound m high 0 with
   |some h=>match bound h low 0 with
    |some _=>some .aB
    |none=>none
   |none=>none
  |_,_,_=>none
 | .sl e,.bT g xs full=>match E.ty e,max.isSome&&high.isNone with
  |some i,false=>if !BB i.size xs then none else
   match bound xs.length max xs.length with
   |none=>none
   |some m=>match bound m high xs.length with
    |none=>none
    |some h=>match bound h low 0 with
     |none=>none
     |some l=>some (.bT g ((xs.drop l).take (h-l)) (qX max m h full xs.length))
  |_,_=>none
 | .sl e,.sl b off len cap=>
  match E.ty e,Z[b]?,max.isSome&&high.isNone with
  |some i,some (.cells u cs ex),false=>
   if i.size=0 then none else
   if !(u==e) then none else
   match max with
   |some _=>match bound (G9 cs.length off i.size cap) max 0 with
    |none=>none
    |some m=>match bound m high 0 with
     |none=>none
     |some h=>match bound h low 0 with
      |none=>none
      |some l=>if m=l then some (.sl b off 0 (some 0)) else some (.sl b (off+l*i.size) (h-l) (some (m-l)))
   |none=>match bound (G9 cs.length off i.size cap) high len with
    |none=>none
    |some h=>match bound h low 0 with
     |none=>none
     |some l=>match cap with
      |some k=>if k=l then some (.sl b off 0 (some 0)) else some (.sl b (off+l*i.size) (h-l) (some (k-l)))
      |none=>
       if off+l*i.size<cs.length then some (.sl b (off+l*i.size) (h-l) none)
       else if ex then some (.sl b off 0 (some 0))
       else if l=0 then some (.sl b off (h-l) none)
       else no "slice: end"
  |_,_,_=>no "slice: dead"
 |_,_=>no "slice: form"
def indexAddr (E:Env) (t:Nat) (x i:V):Option V:=
 match i with
 | .int _ n=>
  if n<0 then none else
  match x with
  | .bT g xs _=>match E.ty t with
   |some { kd:=.sl e,.. }=>match E.ty e,xs[n.toNat]? with
    |some ei,some r=>if r.length==ei.size then some (.dH g r) else no "index: size"
    |_,_=>no "index"
   |_=>none
  | .sl b off len _=>match E.ty t with
   |some { kd:=.sl e,.. }=>match E.ty e with
    |some ei=>if n.toNat<len then some (.ref b (off+n.toNat*ei.size)) else no "index"
    |none=>none
   |_=>none
  |_=>no "indexAddr"
 |_=>none
def index (E:Env) (t:Nat) (x i:V):Option V:=
 match E.ty t,x,i with
 |some { kd:=.str,.. },.str s,.int _ n=>if n<0 then none else match s[n.toNat]? with
  |some c=>some (.int .u8 (c:Nat))
  |none=>no "index"
 |_,_,_=>no "index: form"
def fieldAddr (E:Env) (t:Nat) (x:V) (f:Nat):Option V:=
 match E.ty t with
 |some { kd:=.jR fs,.. }=>match fs[f]? with
  |some (off,ft)=>match E.ty ft with
   |some fi=>if fi.size=0 then none else match x with
    | .ref b o=>some (.ref b (o+off))
    | .dH g cs=>some (.dH g (cs.drop off))
    |_=>no "fieldAddr"
   |none=>none
  |none=>none
 |_=>none
def part (E:Env) (t:Nat) (cs:List V) (off:Nat):Option V:=
 match E.ty t with
 |some i=>if isAgg i.kd then (if off+i.size<=cs.length then some (.agg ((cs.drop off).take i.size)) else none) else cs[off]?
 |none=>none
def field (E:Env) (t:Nat) (x:V) (f:Nat):Option V:=
 match E.ty t,x with
 |some { kd:=.jR fs,.. },.agg cs=>match fs[f]? with
  |some (off,ft)=>part E ft cs off
  |none=>none
 |_,_=>none
def eB (E:Env) (t:Nat) (k:V):Bool:=
 match E.ty t,k with
 |some { kd:=.str,.. },.str _=>true
 |some { kd:=.int _,.. },.int ..=>true
 |some { kd:=.jR _,.. },.agg a=>match E.eqs t with
  |some sh=>(eqs sh a a).isSome
  |none=>false
 |_,_=>false
def entriesOf (Z:Sg) (x:V):Option (List (V × V)):=
 match x with
 | .b_=>some []
 | .imp _ es=>some es
 | .mp b=>match Z[b]? with
  |some (.map es)=>some es
  |_=>none
 |_=>none
def lookup (E:Env) (Z:Sg) (t:Nat) (x k:V) (ok:Bool):Option V:=
 match E.ty t with
 |some { kd:=.map kt e,.. }=>
  if !eB E kt k then no "lookup: key" else
  match E.ty e with
  |none=>none
  |some ei=>
   match entriesOf Z x with
   |none=>none
   |some es=>match iR (fB E kt) k es with
    |none=>no "lookup: find"
    |some r=>
     let v:=match r with | some v=>v | none=>ei.zero
     some (if ok then .gB [v,.bool r.isSome] else v)
 |_=>no "lookup: type"
def fS:V->Bool
 | .agg cs=>cs.all V.aW
 |v=>v.aW
def mapUpdate (E:Env) (Z:Sg) (t:Nat) (x k v:V):Option Sg:=
 match E.ty t,x with
 |some { kd:=.map kt _,.. },.mp b=>
  if !eB E kt k || !fS v then no "mapUpdate: form" else
  match Z[b]? with
  |some (.map es)=>(lA (fB E kt) k v es).map λes=>Z.set b (.map es)
  |_=>no "mapUpdate: dead"
 |_,_=>no "mapUpdate"
def convert (E:Env) (Z:Sg) (src dst:Nat) (x:V):Option V:=
 match E.ty src,E.ty dst with
 |some s,some d=>match s.kd,d.kd,x with
  |_,.int k,.int _ n=>some (.int k (wr k n))
  |_,.str,.str s=>some (.str s)
  | .ptr e,.other,.ref b 0=>match Z[b]?,E.ty e with
   |some (.cells u cs true),some i=>if u=e/\cs.length=i.size/\0<i.size then some (.ref b 0) else none
   |_,_=>none
  | .other,.ptr e,.ref b 0=>match Z[b]?,E.ty e with
   |some (.cells u cs true),some i=>if u=e/\cs.length=i.size/\0<i.size/\E.DY e=true then some (.ref b 0) else none
   |_,_=>none
  | .sl e,.str,.aB=>match E.ty e with
   |some ei=>(match ei.kd with | .int .u8=>some (.str []) | _=>none)
   |none=>none
  | .sl e,.str,.sl b off len cap=>match E.ty e with
   |some ei=>(match ei.kd with
    | .int .u8=>if ei.size=1 then (match elems Z 1 (.sl b off len cap) with
     |some (cs,_)=>(match HL cs with | some l=>some (.str l) | none=>none)
     |none=>none) else none
    |_=>none)
   |none=>none
  | .sl e,.str,.bT g xs f=>match E.ty e with
   |some ei=>(match ei.kd with
    | .int .u8=>if ei.size=1 then (match elems Z 1 (.bT g xs f) with
     |some (cs,_)=>(match HL cs with | some l=>some (.str l) | none=>none)
     |none=>none) else none
    |_=>none)
   |none=>none
  |_,_,_=>no "convert"
 |_,_=>no "convert"
def Cq (E:Env) (src dst:Nat) (x:V):Option V:=
 match x with
 | .str s=>match E.ty src,E.ty dst with
  |some { kd:=.str,.. },some { kd:=.sl e,.. }=>match E.ty e with
   |some { kd:=.int .u8,size:=1,.. }=>if s.length<=1099511627776 then some (.bT false (s.map λ(ch:Nat)=>[V.int .u8 (ch:Int)]) false) else none
   |_=>none
  |_,_=>none
 |_=>none
def QK:V->Option Nat
 | .aB=>some 0
 | .sl _ _ _ (some k)=>some k
 | .bT _ xs true=>some xs.length
 |_=>none
def lenOf (E:Env) (Z:Sg) (t:Nat) (x:V):Option Nat:=
 match E.ty t with
 |none=>none
 |some i=>match i.kd,x with
  | .str,.str s=>some s.length
  | .sl _,.aB=>some 0
  | .sl _,.bT _ xs _=>some xs.length
  | .sl _,.sl _ _ n _=>some n
  | .map ..,.b_=>some 0
  | .map ..,.imp _ es=>some es.length
  | .map ..,.mp b=>match Z[b]? with
   |some (.map es)=>some es.length
   |_=>none
  |_,_=>none
def jM (mx:Bool) (k:IntKind):Int->List V->Option Int
 |a,[]=>some a
 |a,.int _ b::r=>jM mx k (if mx then (if b > a then b else a) else (if b<a then b else a)) r
 |_,_=>none
def builtin (E:Env) (Z:Sg) (b:Builtin) (argTypes:Array Nat) (args:List V):Option (V × Sg):=
 match b,args with
 | .len,[x]=>match argTypes[0]? with
  |some t=>match lenOf E Z t x with
   |some n=>some (.int .i64 (n:Nat),Z)
   |none=>none
  |none=>none
 | .append,[s,x]=>append E Z argTypes s x
 | .cap,[x]=>match argTypes[0]? with
  |some t=>match E.ty t,QK x with
   |some { kd:=.sl _,.. },some n=>some (.int .i64 (n:Nat),Z)
   |_,_=>no "cap"
  |none=>none
 | .copy,[.sl _ _ _ _,.aB]=>match argTypes[0]? with
  |some t=>match E.ty t with
   |some { kd:=.sl e,.. }=>if (E.ty e).isSome then some (.int .i64 0,Z) else none
   |_=>none
  |none=>none
 | .max,.int k a::l=>match jM true k a l with
  |some n=>some (.int k n,Z)
  |none=>none
 | .min,.int k a::l=>match jM false k a l with
  |some n=>some (.int k n,Z)
  |none=>none
 | .clear,[.sl b off len _]=>match argTypes[0]? with
  |some t=>match E.ty t with
   |some { kd:=.sl e,.. }=>match E.ty e,Z[b]? with
    |some i,some (.cells u cs ex)=>
     if len=0 then some (.gB [],Z)
     else if u==e&&decide (off+len*i.size<=cs.length) then some (.gB [],Z.set b (.cells u (setCells cs off (fG len i.zero.cells)) ex)) else none
    |_,_=>none
   |_=>none
  |none=>none
 | .unsafeSliceData,[.sl b off len _]=>if len=0 then none else some (.ref b off,Z)
 | .unsafeSliceData,[.aB]=>some (.fJ,Z)
 | .unsafeString,[.fJ,.int .i64 0]=>match argTypes.toList with
  | [_,_]=>some (.str [],Z)
  |_=>none
 | .unsafeString,[.ref b 0,.int .i64 n]=>match argTypes.toList with
  | [pt,_]=>match E.ty pt with
   |some { kd:=.ptr e,.. }=>match E.ty e,Z[b]? with
    |some i,some (.cells u cs _)=>
     if i.size=1/\u=e/\0<n/\n<=9223372036854775807/\n.toNat<=cs.length then (match HL (cs.take n.toNat) with
      |some l=>some (.str l,Z.set b .dead)
      |none=>none)
     else no "unsafeString"
    |_,_=>none
   |_=>none
  |_=>none
 |_,_=>no "builtin"
def aT (fr:Fr):Operand->Option V
 | .tmp t=>fr.get t
 | .const v=>ofValue v
 | .global _=>no "global"
 | .func f=>some (.fn f [] [])
def fA (fr:Fr):List Operand->Option (List V)
 | []=>some []
 |x::r=>match aT fr x,fA fr r with
  |some v,some l=>some (v::l)
  |_,_=>none
def lI (fr:Fr):List (Nat × Operand)->Option (List (Nat × V))
 | []=>some []
 |(i,x)::r=>match aT fr x,lI fr r with
  |some v,some l=>some ((i,v)::l)
  |_,_=>none
def pV (fr:Fr):Option Operand->Option (Option V)
 |none=>some none
 |some x=>(aT fr x).map some
def isConst:Operand->Bool
 | .const _=>true
 |_=>false
def Gy:V->Bool
 | .gB _ | .undef=>true
 |_=>false
def kA (E:Env) (fr:Fr) (Z:Sg) (c a b:Operand):Option (V × Sg):=
 match aT fr c,aT fr a,aT fr b with
  |some (.bool t),some a,some b=>some (if t then a else b,Z)
  |_,_,_=>no "pick"
def sS (E:Env) (fr:Fr) (Z:Sg) (e:Nat):Option (V × Sg):=
 match E.ty e with
  |some i=>some (.ref Z.length 0,Z++[.cells e i.zero.cells true])
  |none=>no "alloc"
def HM (E:Env) (fr:Fr) (Z:Sg) (e:Nat) (x:Operand):Option (V × Sg):=
 match E.ty e,aT fr x with
  |some i,some v=>if v.cells.length==i.size&&v.cells.all V.aW then some (.ref Z.length 0,Z++[.cells e v.cells true]) else no "box"
  |_,_=>no "box"
def qV (E:Env) (fr:Fr) (Z:Sg) (t:Nat) (parts:Array (Nat × Operand)):Option (V × Sg):=
 match E.ty t,lI fr parts.toList with
  |some i,some ps=>match i.kd with
   | .jR fs=>if !fs.all (λf=>(E.ty f.2).isSome) then none else match fill (placeOf E fs) i.zero.cells ps with
    |some cs=>some (.agg cs,Z)
    |none=>no "build"
   |_=>no "build"
  |_,_=>no "build"
def fT (E:Env) (fr:Fr) (Z:Sg) (t len:Nat) (parts:Array (Nat × Operand)):Option (V × Sg):=
 match E.ty t,lI fr parts.toList with
  |some { kd:=.sl e,.. },some ps=>match E.ty e with
   |some i=>if len*i.size<=16777216 then (match fill (λj=>some (j*i.size,i.size)) (fG len i.zero.cells) ps with
     |some cs=>some (.sl Z.length 0 len none,Z++[.cells e cs true])
     |none=>no "buildSlice") else none
   |none=>no "buildSlice"
  |_,_=>no "buildSlice"
def iJ (E:Env) (fr:Fr) (Z:Sg) (t:Nat) (a:Operand):Option (V × Sg):=
 match aT fr a with
  |some a=>(loadAt E Z t a).map (·,Z)
  |none=>none
def j_ (E:Env) (fr:Fr) (Z:Sg) (t:Nat) (a x:Operand):Option (V × Sg):=
 match aT fr a,aT fr x with
  |some a,some v=>(storeAt E Z t a v).map (.undef,·)
  |_,_=>none
def jF (E:Env) (fr:Fr) (Z:Sg) (x:Operand):Option (V × Sg):=
 match aT fr x with
  |some .fJ | some .rJ | some .rK | some .undef | none=>no "nilCheck"
  |some v=>some (v,Z)
def eZ (E:Env) (fr:Fr) (Z:Sg) (op:BinOp) (t:Nat) (x y:Operand):Option (V × Sg):=
 match aT fr x,aT fr y with
  |some a,some b=>match bin E op t (isConst x||isConst y) a b with
   |some v=>some (v,Z)
   |none=>no "bin"
  |_,_=>no "bin: operands"
def oB (E:Env) (fr:Fr) (Z:Sg) (op:UnOp) (x:Operand):Option (V × Sg):=
 match aT fr x with
  |some a=>(unop op a).map (·,Z)
  |none=>none
def mB (E:Env) (fr:Fr) (Z:Sg) (s d:Nat) (x:Operand):Option (V × Sg):=
 match aT fr x with
  |some a=>match Cq E s d a with
   |some v=>some (v,Z)
   |none=>(convert E Z s d a).map (·,Z)
  |none=>none
def pI (E:Env) (fr:Fr) (Z:Sg) (t:Nat) (x:Operand):Option (V × Sg):=
 match E.ty t,aT fr x with
  |some { kd:=.str,.. },some (.str s)=>some (.ref Z.length 0,Z++[.Je s 0])
  |some { kd:=.map ..,.. },some (.imp _ es)=>some (.ref Z.length 0,Z++[.sV es none])
  |some { kd:=.map ..,.. },some .b_=>some (.ref Z.length 0,Z++[.sV [] none])
  |_,_=>no "range"
def wZ (E:Env) (fr:Fr) (Z:Sg) (x:Operand):Option (V × Sg):=
 match aT fr x with
  |some (.ref b 0)=>match Z[b]? with
   |some (.Je s pos)=>match s[pos]? with
    |some ch=>if ch<128 then some (.gB [.bool true,.int .i64 (pos:Nat),.int .i32 (ch:Nat)],Z.set b (.Je s (pos+1)))
     else if ch<256 then some (.gB [.bool true,.int .i64 (pos:Nat),.int .i32 ((Utf8.decode (sE s) pos).1:Nat)],Z.set b (.Je s (pos+(Utf8.decode (sE s) pos).2)))
     else some (.gB [.bool true,.int .i64 (pos:Nat),.int .i32 65533],Z.set b (.Je s (pos+1)))
    |none=>some (.gB [.bool false],Z)
   |_=>no "next: dead"
  |_=>no "next"
def As (fr:Fr) (Z:Sg) (x:Operand):Option (V × Sg):=
 match aT fr x with
  |some (.ref b 0)=>match Z[b]? with
   |some (.sV _ (some e))=>some (.gB [e.1,e.2],Z)
   |_=>no "entry: dead"
  |_=>no "entry"
def eF (E:Env) (fr:Fr) (Z:Sg) (t:Nat) (x:Operand):Option (V × Sg):=
 match aT fr x with
  |some a=>match E.ty t with
   |some i=>(match i.kd with
    | .AG=>none
    |_=>if Gy a then none else some (.AG t a,Z))
   |none=>none
  |none=>none
def jG (E:Env) (fr:Fr) (Z:Sg) (f:Nat) (first cap:Array Operand):Option (V × Sg):=
 match fA fr first.toList,fA fr cap.toList with
  |some a,some b=>some (.fn f a b,Z)
  |_,_=>none
def l_ (E:Env) (fr:Fr) (Z:Sg) (t:Nat) (r:Option Operand):Option (V × Sg):=
 match pV fr r with
  |some none=>some (.mp Z.length,Z++[.map []])
  |some (some (.int ..))=>match E.ty t with
   |some { kd:=.map ..,.. }=>some (.mp Z.length,Z++[.map []])
   |_=>no "makeMap: type"
  |_=>no "makeMap"
def kB (E:Env) (fr:Fr) (Z:Sg) (t:Nat) (l c:Operand):Option (V × Sg):=
 match E.ty t,aT fr l,aT fr c with
  |some { kd:=.sl e,.. },some (.int _ n),some (.int _ m)=>match E.ty e with
   |some i=>if decide (0<=n)&&decide (n<=m)&&decide (m*i.bytes<=1099511627776)&&decide (m<=1099511627776) then
     some (.sl Z.length 0 n.toNat none,Z++[.cells e (fG m.toNat i.zero.cells) true]) else no "makeSlice"
   |none=>none
  |_,_,_=>no "makeSlice"
def sR (E:Env) (fr:Fr) (Z:Sg) (t:Nat) (x:Operand) (lo hi mx:Option Operand):Option (V × Sg):=
 match aT fr x,pV fr lo,pV fr hi,pV fr mx with
  |some x,some lo,some hi,some mx=>(slice E Z t x lo hi mx).map (·,Z)
  |_,_,_,_=>none
def iE (E:Env) (fr:Fr) (Z:Sg) (t:Nat) (x:Operand) (f:Nat):Option (V × Sg):=
 match aT fr x with
  |some a=>(fieldAddr E t a f).map (·,Z)
  |none=>none
def qU (E:Env) (fr:Fr) (Z:Sg) (t:Nat) (x:Operand) (f:Nat):Option (V × Sg):=
 match aT fr x with
  |some a=>(field E t a f).map (·,Z)
  |none=>none
def cC (E:Env) (fr:Fr) (Z:Sg) (t:Nat) (x i:Operand):Option (V × Sg):=
 match aT fr x,aT fr i with
  |some a,some b=>(indexAddr E t a b).map (·,Z)
  |_,_=>none
def qT (E:Env) (fr:Fr) (Z:Sg) (t:Nat) (x i:Operand):Option (V × Sg):=
 match aT fr x,aT fr i with
  |some a,some b=>(index E t a b).map (·,Z)
  |_,_=>none
def d_ (E:Env) (fr:Fr) (Z:Sg) (t:Nat) (x k:Operand) (ok:Bool):Option (V × Sg):=
 match aT fr x,aT fr k with
  |some a,some b=>(lookup E Z t a b ok).map (·,Z)
  |_,_=>none
def dX (E:Env) (fr:Fr) (Z:Sg) (t:Nat) (m k x:Operand):Option (V × Sg):=
 match aT fr m,aT fr k,aT fr x with
  |some a,some b,some v=>(mapUpdate E Z t a b v).map (.undef,·)
  |_,_,_=>none
def cT (E:Env) (fr:Fr) (Z:Sg) (t:Operand) (i:Nat):Option (V × Sg):=
 match aT fr t with
  |some (.gB vs)=>(vs[i]?).map (·,Z)
  |_=>no "extract"
def eR (E:Env) (fr:Fr) (Z:Sg) (b:Builtin) (args:Array Operand) (argTypes:Array Nat):Option (V × Sg):=
 match fA fr args.toList with
  |some l=>builtin E Z b argTypes l
  |none=>none
def aS (E:Env) (fr:Fr) (Z:Sg) (op:Op):Option (V × Sg):=
 match op with
 | .move x | .assign x=>(aT fr x).map (·,Z)
 | .pick c a b=>kA E fr Z c a b
 | .alloc e=>sS E fr Z e
 | .box e x=>HM E fr Z e x
 | .build t parts=>qV E fr Z t parts
 | .buildSlice t len parts=>fT E fr Z t len parts
 | .load t a=>iJ E fr Z t a
 | .store t a x=>j_ E fr Z t a x
 | .nilCheck x=>jF E fr Z x
 | .binOp op t x y _=>eZ E fr Z op t x y
 | .unOp op _ x=>oB E fr Z op x
 | .convert s d x=>mB E fr Z s d x
 | .range t x=>pI E fr Z t x
 | .next x true=>wZ E fr Z x
 | .entry x=>As fr Z x
 | .makeInterface t x=>eF E fr Z t x
 | .makeFunc (.func f) first cap=>jG E fr Z f first cap
 | .makeMap t r=>l_ E fr Z t r
 | .makeSlice t l c=>kB E fr Z t l c
 | .slice t x lo hi mx=>sR E fr Z t x lo hi mx
 | .fieldAddr t x f=>iE E fr Z t x f
 | .field t x f=>qU E fr Z t x f
 | .indexAddr t x i=>cC E fr Z t x i
 | .index t x i=>qT E fr Z t x i
 | .lookup t x k ok=>d_ E fr Z t x k ok
 | .mapUpdate t m k x | .insert t m k x=>dX E fr Z t m k x
 | .extract t i=>cT E fr Z t i
 | .call { callee:=.builtin b,args,argTypes }=>eR E fr Z b args argTypes
 |_=>no "op"
inductive X where
 |normal | exit (id:Nat) | ret
 deriving Inhabited
def yielded (ops:Array Oper) (fr:Fr) (j:Nat):Option Bool:=
 match ((ops[j]?).bind (·.dst)).bind fr.get with
 |some (.bool b)=>some b
 |_=>none
def eP (fr:Fr) (dst:Option Nat) (v:V):Fr:=
 match dst with
 |some d=>fr.put d v
 |none=>fr
def results (E:Env) (fr:Fr) (Z:Sg):List ResultVar->Option (List V)
 | []=>some []
 | .tmp t::r=>match fr.get t,results E fr Z r with
  |some v,some l=>some (v::l)
  |_,_=>none
 | .cell a t::r=>match fr.get a,results E fr Z r with
  |some a,some l=>(loadAt E Z t a).map (· :: l)
  |_,_=>none
abbrev yM:=Code->Fr->Sg->Option (X × Fr × Sg)
def enter (E:Env) (ev:yM) (F:Fn) (args:List V) (Z:Sg):Option (V × Sg):=
 match Fr.init F.ntmps args with
 |none=>no "args"
 |some fr=>match ev F.code fr Z with
 |some (.ret,fr,Z) | some (.normal,fr,Z)=>match results E fr Z F.results with
  |some [v]=>some (v,Z)
  |some vs=>some (.gB vs,Z)
  |none=>no "results"
 |_=>none
def gT (E:Env) (ev:yM) (f:Nat) (args:List V) (Z:Sg):Option (V × Sg):=
 match E.hspec f with
 |some s=>s args Z
 |none=>
 match E.spec f with
 |some s=>match aU (aQ Z E.ty true) args with
  |some args=>match s args with
   |some v=>(match bW [] E.ty false v with
    |some v=>some (v,Z)
    |none=>no "spec: result")
   |none=>no "spec"
  |none=>no "spec: args"
 |none=>match E.fn f with
  |none=>no ("no function " ++ toString f)
  |some F=>
   match E.mode f with
   | .shared=>match enter E ev F args Z with
    |some r=>some r
    |none=>no ("in function " ++ toString f)
   |m=>
    let g:=match m with | .fD=>true | _=>false
    match aU (aQ Z E.ty g) args with
    |some args'=>match enter E ev F args' [] with
     |some (v,σ1)=>match bW σ1 E.ty false v with
      |some v=>some (v,if g then Z else kill Z (args.flatMap (mK Z)))
      |none=>no ("result of function " ++ toString f)
     |none=>no ("in function " ++ toString f)
    |none=>no ("args of function " ++ toString f)
def rM (E:Env) (fr:Fr) (t len:Nat) (parts:List (Nat × Operand)):Option V:=
 match E.ty t,lI fr parts with
 |some { kd:=.sl e,.. },some ps=>match E.ty e with
  |some i=>if len*i.size<=16777216 then (match fill (λj=>some (j*i.size,i.size)) (fG len i.zero.cells) ps with
    |some cs=>if cs.all (bU false) then some (.bT false (rows i.size len cs) true) else no "literal: tag"
    |none=>no "literal") else none
  |none=>no "literal"
 |_,_=>no "literal"
inductive Fz where
 |no | lit | app
def Fz.lits:Fz->Bool
 | .no=>false
 |_=>true
def Fz.apps:Fz->Bool
 | .app=>true
 |_=>false
def vM (E:Env) (fr:Fr) (Z:Sg) (args:List Operand) (ats:Array Nat):Option V:=
 match fA fr args with
 |some [.aB,x]=>match aU (aQ Z E.ty true) [.aB,x] with
  |some vs=>match builtin E [] .append ats vs with
   |some (v,σ1)=>bW σ1 E.ty false v
   |none=>none
  |none=>none
 |_=>no "append: not to nothing"
def mS (E:Env) (ev:yM) (dr:Fz) (op:Op) (fr:Fr) (Z:Sg):Option (V × Sg):=
 match op with
 | .call { callee:=.value f,args,.. }=>match aT fr f,fA fr args.toList with
  |some (.fn k first cap),some l=>gT E ev k (first++l++cap) Z
  |_,_=>no "call"
 | .buildSlice t len parts=>if dr.lits then (rM E fr t len parts.toList).map (·,Z) else aS E fr Z op
 | .call { callee:=.builtin .append,args,argTypes }=>if dr.apps then (vM E fr Z args.toList argTypes).map (·,Z) else aS E fr Z op
 |op=>aS E fr Z op
inductive K where
 |plain (f:Fr->Sg->Option (V × Sg))
 |call (f:Operand) (args:List Operand)
 |lit (t len:Nat) (parts:Array (Nat × Operand))
 |app (args:Array Operand) (ats:Array Nat)
def comp (E:Env):Op->K
 | .move x=>.plain λfr Z=>(aT fr x).map (·,Z)
 | .assign x=>.plain λfr Z=>(aT fr x).map (·,Z)
 | .pick c a b=>.plain λfr Z=>kA E fr Z c a b
 | .alloc e=>.plain λfr Z=>sS E fr Z e
 | .box e x=>.plain λfr Z=>HM E fr Z e x
 | .build t parts=>.plain λfr Z=>qV E fr Z t parts
 | .buildSlice t len parts=>.lit t len parts
 | .load t a=>.plain λfr Z=>iJ E fr Z t a
 | .store t a x=>.plain λfr Z=>j_ E fr Z t a x
 | .nilCheck x=>.plain λfr Z=>jF E fr Z x
 | .binOp op t x y _=>.plain λfr Z=>eZ E fr Z op t x y
 | .unOp op _ x=>.plain λfr Z=>oB E fr Z op x
 | .convert s d x=>.plain λfr Z=>mB E fr Z s d x
 | .makeInterface t x=>.plain λfr Z=>eF E fr Z t x
 | .makeMap t r=>.plain λfr Z=>l_ E fr Z t r
 | .makeSlice t l c=>.plain λfr Z=>kB E fr Z t l c
 | .slice t x lo hi mx=>.plain λfr Z=>sR E fr Z t x lo hi mx
 | .fieldAddr t x f=>.plain λfr Z=>iE E fr Z t x f
 | .field t x f=>.plain λfr Z=>qU E fr Z t x f
 | .indexAddr t x i=>.plain λfr Z=>cC E fr Z t x i
 | .index t x i=>.plain λfr Z=>qT E fr Z t x i
 | .lookup t x k ok=>.plain λfr Z=>d_ E fr Z t x k ok
 | .extract t i=>.plain λfr Z=>cT E fr Z t i
 | .call { callee:=.value f,args,.. }=>.call f args.toList
 | .call { callee:=.builtin .append,args,argTypes }=>.app args argTypes
 |op=>.plain λfr Z=>aS E fr Z op
def iX (E:Env) (ev:yM) (dr:Fz) (op:Op) (fr:Fr) (Z:Sg):Option (V × Sg):=
 match comp E op with
 | .plain f=>f fr Z
 | .call f args=>match aT fr f,fA fr args with
  |some (.fn k first cap),some l=>gT E ev k (first++l++cap) Z
  |_,_=>no "call"
 | .lit t len parts=>if dr.lits then (rM E fr t len parts.toList).map (·,Z) else fT E fr Z t len parts
 | .app args ats=>if dr.apps then (vM E fr Z args.toList ats).map (·,Z) else eR E fr Z .append args ats
theorem Ar (E:Env) (ev:yM) (dr:Fz) (op:Op) (fr:Fr) (Z:Sg):iX E ev dr op fr Z=mS E ev dr op fr Z:=by
 cases op with
 |call c=>
  obtain⟨callee,args,ats⟩:=c
  cases callee with
  |builtin b=>cases b <;> rfl
  |_=>rfl
 |_=>rfl
def bQ (ops:Array Oper) (o:Oper) (fr:Fr):Bool:=
 match o.guard with
 |none=>true
 |some (j,want)=>yielded ops fr j==some want
def bB (E:Env) (ev:yM) (dr:Fz) (ops:Array Oper) (o:Oper) (fr:Fr) (Z:Sg):Option (Fr × Sg):=
 if bQ ops o fr then
  match iX E ev dr o.op fr Z with
  |some (v,Z)=>some (eP fr o.dst v,Z)
  |none=>no o.pos
 else some (eP fr o.dst .undef,Z)
def gR (E:Env) (ev:yM) (dr:Fz) (ops:Array Oper):List Oper->Fr->Sg->Option (Fr × Sg)
 | [],fr,Z=>some (fr,Z)
 |o::rest,fr,Z=>match bB E ev dr ops o fr Z with
  |some (fr,Z)=>gR E ev dr ops rest fr Z
  |none=>none
def effect (E:Env) (frz:Fz):Op->Bool × Bool
 | .buildSlice ..=>(!frz.lits,!frz.lits)
 | .move _ | .assign _ | .pick .. | .build .. | .nilCheck _ | .binOp .. | .unOp .. | .makeInterface .. | .makeFunc .. | .fieldAddr .. | .field .. | .indexAddr .. | .index .. | .extract ..=>(false,false)
 | .load .. | .convert .. | .slice .. | .lookup ..=>(true,false)
 | .call { callee:=.builtin .len,.. }=>(true,false)
 | .call { callee:=.builtin .min,.. }=>(false,false)
 | .call { callee:=.builtin .max,.. }=>(false,false)
 | .call { callee:=.builtin .append,.. }=>(true,!frz.apps)
 | .call { callee:=.builtin .unsafeSliceData,.. }=>(true,false)
 | .call { callee:=.value (.func f),.. }=>match E.hspec f,E.spec f,E.mode f with
  |none,some _,_=>(true,false)
  |none,none,.fD=>(true,false)
  |_,_,_=>(true,true)
 |_=>(true,true)
def tmpsOf:List Operand->List Nat
 | []=>[]
 | .tmp t::r=>t::tmpsOf r
 |_::r=>tmpsOf r
def qG (ops:Array Oper) (o:Oper):List Nat:=
 tmpsOf o.op.operands.toList++match o.guard with
  |none=>[]
  |some (j,_)=>match (ops[j]?).bind (·.dst) with
   |some d=>[d]
   |none=>[]
def HG (pre:List Nat) (o:Oper):Nat:=
 o.after.toList.foldl (λb e=>if Region.binds .any e then b ||| (1 <<< e.on) ||| pre.getD e.on 0 else b) 0
def sL:List Oper->List Nat->List Nat
 | [],pre=>pre
 |o::rest,pre=>sL rest (pre++[HG pre o])
def pG (E:Env) (frz:Fz) (ops:Array Oper) (o p:Oper):Bool:=
 !((effect E frz o.op).2&&(effect E frz p.op).2) &&
   (match o.dst with | some d=>!(qG ops p).contains d && !(p.dst==some d) | none=>true) &&
   (match p.dst with | some d=>!(qG ops o).contains d | none=>true)
def nD {α:Type} (f:α->α->Bool):List α->List α->Bool
 | [],[]=>true
 |a::x,b::y=>f a b&&nD f x y
 |_,_=>false
def oO:Nat->V->V->Bool
 |0,_,_=>false
 |n+1,a,b=>match a,b with
  | .bool a,.bool b=>a==b
  | .int k a,.int l b=>decide (k=l)&&decide (a=b)
  | .str a,.str b=>seq a b
  | .fJ,.fJ | .aB,.aB | .b_,.b_ | .rK,.rK | .rJ,.rJ | .undef,.undef=>true
  | .bT g x f,.bT h y e=>g==h&&nD (nD (oO n)) x y&&f==e
  | .dH g x,.dH h y=>g==h&&nD (oO n) x y
  | .imp g x,.imp h y=>g==h&&nD (λp q=>oO n p.1 q.1&&oO n p.2 q.2) x y
  | .ref b o,.ref c p=>decide (b=c)&&decide (o=p)
  | .sl b o l none,.sl c p m none=>decide (b=c)&&decide (o=p)&&decide (l=m)
  | .sl b o l (some i),.sl c p m (some j)=>decide (b=c)&&decide (o=p)&&decide (l=m)&&decide (i=j)
  | .mp b,.mp c=>decide (b=c)
  | .fn f x y,.fn g z w=>decide (f=g)&&nD (oO n) x z&&nD (oO n) y w
  | .agg x,.agg y=>nD (oO n) x y
  | .gB x,.gB y=>nD (oO n) x y
  |_,_=>false
def again (E:Env) (ev:yM) (frz:Fz) (ops:Array Oper) (o:Oper) (fr:Fr) (Z U:Sg):Bool:=
 !bQ ops o fr||match iX E ev frz o.op fr Z,iX E ev frz o.op fr U with
  |some (u,_),some (v,_)=>oO 12 u v
  |_,_=>false
def eJ (E:Env) (ev:yM) (frz:Fz) (ops:Array Oper):List Oper->Fr->Sg->Option (List (Fr × Sg))
 | [],fr,Z=>some [(fr,Z)]
 |o::rest,fr,Z=>match bB E ev frz ops o fr Z with
  |some (fr',σ')=>match eJ E ev frz ops rest fr' σ' with
   |some l=>some ((fr,Z)::l)
   |none=>none
  |none=>none
def oJ:Nat->List Oper->Bool
 |_,[]=>true
 |i,o::rest=>o.after.toList.all (λe=>!Region.binds .any e||decide (e.on<i))&&oJ (i+1) rest
def last {α:Type}:List α->Option α
 | []=>none
 | [a]=>some a
 |_::r=>last r
structure DW where
 i:Nat
 o:Oper
 pre:Nat
 rd:Bool
 wr:Bool
def ED (E:Env) (frz:Fz):Nat->List Oper->List Nat->List DW
 |i,o::rest,p::pre=>{ i,o,pre:=p,rd:=(effect E frz o.op).1,wr:=(effect E frz o.op).2 }::ED E frz (i+1) rest pre
 |_,_,_=>[]
structure Ej where
 i:Nat
 j:Nat
 a:Bool
 b:Bool
def yZ (E:Env) (frz:Fz) (ops:Array Oper) (x:DW):List DW->Option (List Ej)
 | []=>some []
 |y::r=>match y.pre.testBit x.i with
  |true=>yZ E frz ops x r
  |false=>match pG E frz ops x.o y.o,yZ E frz ops x r with
   |true,some l=>match x.wr&&y.rd,x.rd&&y.wr with
    |false,false=>some l
    |a,b=>some ({ i:=x.i,j:=y.i,a,b }::l)
   |_,_=>none
def vZ (E:Env) (frz:Fz) (ops:Array Oper):List DW->Option (List Ej)
 | []=>some []
 |x::r=>match yZ E frz ops x r,vZ E frz ops r with
  |some a,some b=>some (a++b)
  |_,_=>none
def cB (E:Env) (frz:Fz) (ops:Array Oper):Option (List Ej):=
 match oJ 0 ops.toList with
 |true=>vZ E frz ops (ED E frz 0 ops.toList (sL ops.toList []))
 |false=>none
def dM (E:Env) (ev:yM) (frz:Fz) (ops:Array Oper) (ts:List (Fr × Sg)) (d:Ej):Bool:=
 match ops[d.i]?,ops[d.j]?,ts[d.i]?,ts[d.j]?,ts[d.j+1]? with
 |some x,some y,some p,some q,some r=>(!d.a||again E ev frz ops y q.1 q.2 p.2)&&(!d.b||again E ev frz ops x p.1 p.2 r.2)
 |_,_,_,_,_=>false
def Gg:Bool->List Oper->Bool
 |b,[]=>b
 |b,o::r=>match o.op with
  | .call { callee:=.builtin .append,args,.. }=>match args.toList with
   | .const _::_=>Gg true r
   |_=>false
  |_=>Gg b r
def eL (E:Env) (ops:Array Oper):Fz:=match decide (64<ops.size) with
 |true=>.lit
 |false=>match Gg false ops.toList with
  |true=>.app
  |false=>match cB E .no ops with
   |some _=>.no
   |none=>match cB E .lit ops with
    |some _=>.lit
    |none=>.app
def bG (E:Env) (ev:yM) (ops:Array Oper) (fr:Fr) (Z:Sg):Option (Fr × Sg):=
 match cB E (eL E ops) ops with
 |none=>no "draw: plan"
 |some []=>gR E ev (eL E ops) ops ops.toList fr Z
 |some l=>match eJ E ev (eL E ops) ops ops.toList fr Z with
  |none=>none
  |some ts=>if l.all (dM E ev (eL E ops) ops ts) then last ts else no "draw"
def ev (E:Env):Nat->yM
 |0,_,_,_=>no "fuel"
 |n+1,c,fr,Z=>
  match c with
  | .skip=>some (.normal,fr,Z)
  | .seq a b=>match ev E n a fr Z with
   |some (.normal,fr,Z)=>ev E n b fr Z
   |r=>r
  | .cond c t e=>match aT fr c with
   |some (.bool true)=>ev E n t fr Z
   |some (.bool false)=>ev E n e fr Z
   |_=>no "cond"
  | .block id c=>match ev E n c fr Z with
   |some (.exit id',fr,Z)=>if id'=id then some (.normal,fr,Z) else some (.exit id',fr,Z)
   |r=>r
  | .loop c=>match ev E n c fr Z with
   |some (.normal,fr,Z)=>ev E n (.loop c) fr Z
   |r=>r
  | .exit id=>some (.exit id,fr,Z)
  | .ret=>some (.ret,fr,Z)
  | .region _ ops draw=>match (if draw then bG E (ev E n) ops fr Z else gR E (ev E n) .no ops ops.toList fr Z) with
   |some (fr,Z)=>some (.normal,fr,Z)
   |none=>none
  |_=>no "code"
def call (E:Env) (n:Nat) (f:Nat) (args:List V):Option V:=
 match E.fn f with
 |none=>none
 |some F=>match enter E (ev E n) F args [] with
  |some (v,σ1)=>bW σ1 E.ty false v
  |none=>none
def sub (g:Bool) (I:Bool->Nat->Prop):Bool->Nat->Prop:=λh k=>I (g&&h) k
def e_:Value->Nat
 | .bool _=>1
 | .int k _=>match k with | .i8=>2 | .i16=>3 | .i32=>4 | .i64=>5 | .u8=>6 | .u16=>7 | .u32=>8 | .u64=>9
 | .string _=>20
 |_=>0
def eV:Value->List Nat
 | .agg a=>99::a.toList.map e_
 |v=>[e_ v]
structure WL (en:Array MapEntry) (clock:Nat):Prop where
 st:MapKept.Stamped en clock
 shape:∀x∈en.toList,∀y∈en.toList,eV x.key=eV y.key
mutual
inductive IR (w:World):(Bool->Nat->Prop)->V->Value->Prop
 |bool {I:Bool->Nat->Prop} (b:Bool):IR w I (.bool b) (.bool b)
 |int {I:Bool->Nat->Prop} (k:IntKind) (n:Int):IR w I (.int k n) (.int k n)
 |str {I:Bool->Nat->Prop} (s:ByteArray):IR w I (.str (bytes s)) (.string s)
 |fJ {I:Bool->Nat->Prop}:IR w I .fJ (.pointer none)
 |aB {I:Bool->Nat->Prop}:IR w I .aB (.slice none 0 0)
 |b_ {I:Bool->Nat->Prop}:IR w I .b_ (.map none)
 |rK {I:Bool->Nat->Prop}:IR w I .rK .nilFunc
 |rJ {I:Bool->Nat->Prop}:IR w I .rJ .nilIface
 |bT {I:Bool->Nat->Prop} (g:Bool) (xs:List (List V)) (full:Bool) (blk off len cap sz:Nat)(hi:I g blk)(hl:len=xs.length)(hc:len<=cap)(hf:full=true->cap=len)
   (hr:eN w (sub g I) sz xs blk off):IR w I (.bT g xs full) (.slice (some ⟨blk,off,none⟩) len cap)
 |emp {I:Bool->Nat->Prop} (g full:Bool) (a:Addr):IR w I (.bT g [] full) (.slice (some a) 0 0)
 |dH {I:Bool->Nat->Prop} (g:Bool) (cs:List V) (blk off:Nat)(hi:I g blk)(hr:dW w (sub g I) cs blk off):IR w I (.dH g cs) (.pointer (some ⟨blk,off,none⟩))
 |imp {I:Bool->Nat->Prop} (g:Bool) (es:List (V × V)) (blk:Nat) (entries:Array MapEntry) (clock:Nat) (l:List MapEntry)(hi:I g blk)(hm:w.heap[blk]?=some (.map entries clock))
   (ho:WL entries clock)(hp:l.Perm entries.toList)(hr:rY w (sub g I) es l):IR w I (.imp g es) (.map (some blk))
 |fn {I:Bool->Nat->Prop} (f:Nat):IR w I (.fn f [] []) (.func (.func f) #[] #[])
inductive dW (w:World):(Bool->Nat->Prop)->List V->Nat->Nat->Prop
 |nil {I:Bool->Nat->Prop}{blk off:Nat}:dW w I [] blk off
 |cons {I:Bool->Nat->Prop} (v:V) (x:Value) (cs:List V) {blk off:Nat}(hc:w.cell? ⟨blk,off,none⟩=some x)(hv:IR w I v x)(hr:dW w I cs blk (off+1)):dW w I (v::cs) blk off
inductive eN (w:World):(Bool->Nat->Prop)->Nat->List (List V)->Nat->Nat->Prop
 |nil {I:Bool->Nat->Prop}{sz blk off:Nat}:eN w I sz [] blk off
 |cons {I:Bool->Nat->Prop}{sz:Nat} (r:List V) (xs:List (List V)) {blk off:Nat}(hl:r.length=sz)(hc:dW w I r blk off)(hr:eN w I sz xs blk (off+sz)):eN w I sz (r::xs) blk off
inductive BQ (w:World):(Bool->Nat->Prop)->List V->List Value->Prop
 |nil {I:Bool->Nat->Prop}:BQ w I [] []
 |cons {I:Bool->Nat->Prop} (v:V) (x:Value) (cs:List V) (xs:List Value)(hv:IR w I v x)(hr:BQ w I cs xs):BQ w I (v::cs) (x::xs)
inductive r_ (w:World):(Bool->Nat->Prop)->V->Value->Prop
 |one {I:Bool->Nat->Prop}{v:V}{x:Value}(h:IR w I v x):r_ w I v x
 |agg {I:Bool->Nat->Prop} (cs:List V) (xs:List Value)(h:BQ w I cs xs):r_ w I (.agg cs) (.agg xs.toArray)
inductive rY (w:World):(Bool->Nat->Prop)->List (V × V)->List MapEntry->Prop
 |nil {I:Bool->Nat->Prop}:rY w I [] []
 |cons {I:Bool->Nat->Prop} (k v:V) (es:List (V × V)) (e:MapEntry) (l:List MapEntry)(hk:r_ w I k e.key)(hv:r_ w I v e.val)(hr:rY w I es l):rY w I ((k,v)::es) (e::l)
end
theorem cell_of_heap {w w':World}{b o:Nat}(h:w'.heap[b]?=w.heap[b]?):w'.cell? ⟨b,o,none⟩=w.cell? ⟨b,o,none⟩:=by
 simp[World.cell?,h]
def qN (w w':World) (I I':Bool->Nat->Prop):Prop:=∀g k,I g k->I' g k/\w'.heap[k]?=w.heap[k]?
theorem qN.sub {w w':World}{I I':Bool->Nat->Prop}(h:qN w w' I I') (g:Bool):qN w w' (sub g I) (sub g I'):=λ_ k hk=>h _ k hk
mutual
theorem IR.mono {w w':World}{I I':Bool->Nat->Prop}{v:V}{x:Value} (H:qN w w' I I')(h:IR w I v x):IR w' I' v x:=by
 cases h with
 |bool=>exact .bool _
 |int=>exact .int _ _
 |str=>exact .str _
 |fJ=>exact .fJ
 |aB=>exact .aB
 |b_=>exact .b_
 |rK=>exact .rK
 |rJ=>exact .rJ
 |fn=>exact .fn _
 |emp g full a=>exact .emp g full a
 |bT g xs full blk off len cap sz hi hl hc hf hr=>exact .bT g xs full blk off len cap sz (H _ _ hi).1 hl hc hf (eN.mono (H.sub g) (λ_=>(H g blk hi).2) hr)
 |dH g cs blk off hi hr=>exact .dH g cs blk off (H _ _ hi).1 (dW.mono (H.sub g) (λ_=>(H g blk hi).2) hr)
 |imp g es blk entries clock l hi hm ho hp hr=>exact .imp g es blk entries clock l (H _ _ hi).1 (by rw[(H _ _ hi).2];exact hm) ho hp (rY.mono (H.sub g) hr)
theorem dW.mono {w w':World}{I I':Bool->Nat->Prop}{cs:List V}{blk off:Nat} (H:qN w w' I I')(hb:cs≠[]->w'.heap[blk]?=w.heap[blk]?)(h:dW w I cs blk off):dW w' I' cs blk off:=by
 cases h with
 |nil=>exact .nil
 |cons v x cs hc hv hr=>exact .cons v x cs (by rw[cell_of_heap (hb (by simp))];exact hc) (IR.mono H hv) (dW.mono H (λ_=>hb (by simp)) hr)
theorem eN.mono {w w':World}{I I':Bool->Nat->Prop}{sz:Nat}{xs:List (List V)}{blk off:Nat} (H:qN w w' I I')(hb:xs≠[]->w'.heap[blk]?=w.heap[blk]?)(h:eN w I sz xs blk off):eN w' I' sz xs blk off:=by
 cases h with
 |nil=>exact .nil
 |cons r xs hl hc hr=>exact .cons r xs hl (dW.mono H (λ_=>hb (by simp)) hc) (eN.mono H (λ_=>hb (by simp)) hr)
theorem BQ.mono {w w':World}{I I':Bool->Nat->Prop}{cs:List V}{xs:List Value} (H:qN w w' I I')(h:BQ w I cs xs):BQ w' I' cs xs:=by
 cases h with
 |nil=>exact .nil
 |cons v x cs xs hv hr=>exact .cons v x cs xs (IR.mono H hv) (BQ.mono H hr)
theorem r_.mono {w w':World}{I I':Bool->Nat->Prop}{v:V}{x:Value} (H:qN w w' I I')(h:r_ w I v x):r_ w' I' v x:=by
 cases h with
 |one h=>exact .one (IR.mono H h)
 |agg cs xs h=>exact .agg cs xs (BQ.mono H h)
theorem rY.mono {w w':World}{I I':Bool->Nat->Prop}{es:List (V × V)}{l:List MapEntry} (H:qN w w' I I')(h:rY w I es l):rY w' I' es l:=by
 cases h with
 |nil=>exact .nil
 |cons k v es e l hk hv hr=>exact .cons k v es e l (r_.mono H hk) (r_.mono H hv) (rY.mono H hr)
end
structure Cx where
 w:World
 Z:Sg
 blk:Nat->Nat
 tot:Nat->Nat
 yL:Nat->Nat
 nC:Nat->Prop
def O.alive:O->Bool
 | .dead=>false
 |_=>true
def live (Z:Sg) (b:Nat):Prop:=∃o,Z[b]?=some o/\o.alive=true
def Cx.own (c:Cx) (k:Nat):Prop:=∃b,live c.Z b/\c.blk b=k
def Cx.bF (c:Cx) (g:Bool) (k:Nat):Prop:=k<c.w.heap.size/\¬ c.own k/\(g=false->¬ c.nC k)
mutual
inductive VR (c:Cx):V->Value->Prop
 |inl {v:V}{x:Value}(h:IR c.w c.bF v x):VR c v x
 |ref (b off:Nat)(h:b<c.Z.length):VR c (.ref b off) (.pointer (some ⟨c.blk b,off,none⟩))
 |sl (b off len:Nat) (cap:Option Nat) (cap':Nat)(h:b<c.Z.length)(hl:len<=cap')(hk:∀k,cap=some k->cap'=k)(ht:cap=none->off+cap'*c.yL b=c.tot b) :
   VR c (.sl b off len cap) (.slice (some ⟨c.blk b,off,none⟩) len cap')
 |mp (b:Nat)(h:b<c.Z.length):VR c (.mp b) (.map (some (c.blk b)))
 |fn (f:Nat) (a b:List V) (xs ys:List Value)(ha:fM c a xs)(hb:fM c b ys):VR c (.fn f a b) (.func (.func f) xs.toArray ys.toArray)
 |agg (cs:List V) (xs:List Value)(h:fM c cs xs):VR c (.agg cs) (.agg xs.toArray)
 |gB (cs:List V) (xs:List Value)(h:fM c cs xs):VR c (.gB cs) (.tuple xs.toArray)
 |AG (t:Nat) (v:V) (x:Value)(h:VR c v x):VR c (.AG t v) (.iface t x)
 |undef:VR c .undef undef
inductive fM (c:Cx):List V->List Value->Prop
 |nil:fM c [] []
 |cons (v:V) (x:Value) (cs:List V) (xs:List Value)(hv:VR c v x)(hr:fM c cs xs):fM c (v::cs) (x::xs)
end
structure Ext (c c':Cx):Prop where
 size:c.w.heap.size<=c'.w.heap.size
 keep:∀k,k<c.w.heap.size->¬ c.own k->c'.w.heap[k]?=c.w.heap[k]?/\¬ c'.own k
 len:c.Z.length<=c'.Z.length
 blk:∀b,b<c.Z.length->c'.blk b=c.blk b
 tot:∀b,b<c.Z.length->c'.tot b=c.tot b
 yL:∀b,b<c.Z.length->c'.yL b=c.yL b
 nC:c'.nC=c.nC
 os:c'.w.os=c.w.os
 tape:c'.w.tape=c.w.tape
 output:c'.w.output=c.w.output
theorem Ext.refl (c:Cx):Ext c c:=⟨ae _,λ_ _ h=>⟨rfl,h⟩,ae _,λ_ _=>rfl,λ_ _=>rfl,λ_ _=>rfl,rfl,rfl,rfl,rfl⟩
theorem Ext.trans {a b c:Cx}(h:Ext a b) (k:Ext b c):Ext a c:=
 ⟨gh h.size k.size,λi hi ho=>by
   obtain⟨e,ho'⟩:=h.keep i hi ho
   obtain⟨e',ho''⟩:=k.keep i (gv hi h.size) ho'
   exact⟨e'.trans e,ho''⟩,
  gh h.len k.len,λi hi=>(k.blk i (gv hi h.len)).trans (h.blk i hi),λi hi=>(k.tot i (gv hi h.len)).trans (h.tot i hi),
  λi hi=>(k.yL i (gv hi h.len)).trans (h.yL i hi),k.nC.trans h.nC,k.os.trans h.os,k.tape.trans h.tape,k.output.trans h.output⟩
theorem Ext.wider {c c':Cx}(h:Ext c c'):qN c.w c'.w c.bF c'.bF:=λg k hk=>by
 obtain⟨h1,h2,h3⟩:=hk
 obtain⟨e,ho⟩:=h.keep k h1 h2
 exact⟨⟨gv h1 h.size,ho,λhg=>by rw[h.nC];exact h3 hg⟩,e⟩
mutual
theorem VR.mono {c c':Cx}{v:V}{x:Value} (H:Ext c c')(h:VR c v x):VR c' v x:=by
 cases h with
 |inl h=>exact .inl (IR.mono H.wider h)
 |ref b off h=>rw[<- H.blk b h];exact .ref b off (gv h H.len)
 |sl b off len cap cap' h hl hk ht=>rw[<- H.blk b h];exact .sl b off len cap cap' (gv h H.len) hl hk (λe=>by rw[H.yL b h,H.tot b h];exact ht e)
 |mp b h=>rw[<- H.blk b h];exact .mp b (gv h H.len)
 |fn f a b xs ys ha hb=>exact .fn f a b xs ys (fM.mono H ha) (fM.mono H hb)
 |agg cs xs h=>exact .agg cs xs (fM.mono H h)
 |gB cs xs h=>exact .gB cs xs (fM.mono H h)
 |AG t v x h=>exact .AG t v x (VR.mono H h)
 |undef=>exact .undef
theorem fM.mono {c c':Cx}{v:List V}{x:List Value} (H:Ext c c')(h:fM c v x):fM c' v x:=by
 cases h with
 |nil=>exact .nil
 |cons v x cs xs hv hr=>exact .cons v x cs xs (VR.mono H hv) (fM.mono H hr)
end
inductive iV (c:Cx):List (V × V)->List MapEntry->Prop
 |nil:iV c [] []
 |cons (k v:V) (es:List (V × V)) (e:MapEntry) (l:List MapEntry)(hk:r_ c.w c.bF k e.key)(hv:VR c v e.val)(hr:iV c es l):iV c ((k,v)::es) (e::l)
theorem iV.mono {c c':Cx}{es:List (V × V)}{l:List MapEntry} (H:Ext c c')(h:iV c es l):iV c' es l:=by
 induction h with
 |nil=>exact .nil
 |cons k v es e l hk hv hr ih=>exact .cons k v es e l (r_.mono H.wider hk) (VR.mono H hv) ih
def vQ (E:Env) (c:Cx) (b:Nat):O->Prop
 | .dead=>True
 | .cells t cs ex=>∃arr,c.w.heap[c.blk b]?=some (.cells arr t (0,0))/\arr.size=c.tot b/\(∃i,E.ty t=some i/\c.yL b=i.size)/\cs.length<=arr.size/\(ex=true->cs.length=arr.size)/\cs.all V.aW=true /\
   ∀(j:Nat) (v:V),cs[j]?=some v->∃x,arr[j]?=some x/\VR c v x
 | .map es=>∃entries clock,c.w.heap[c.blk b]?=some (.map entries clock)/\WL entries clock/\∃l:List MapEntry,l.Perm entries.toList/\iV c es l
 | .Je s pos=>∃bs,bytes bs=s/\c.w.heap[c.blk b]?=some (.stringIter bs pos)
 | .sV left cur=>(left=[]/\cur=none/\c.w.heap[c.blk b]?=some (.mapIter none 0 #[] 0))\/∃(g:Bool) (m:Nat) (en:Array MapEntry) (clock:Nat) (seen:Array Nat) (l:List MapEntry),
   c.w.heap[c.blk b]?=some (.mapIter (some m) clock seen clock)/\c.bF g m/\c.w.heap[m]?=some (.map en clock)/\WL en clock/\l.Perm (en.toList.filter λe=>!seen.contains e.born)/\iV c left l /\
   ∀e,cur=some e->∃x∈en.toList,(∃seen':Array Nat,seen=seen'.push x.born)/\r_ c.w c.bF e.1 x.key/\VR c e.2 x.val
theorem vQ.mono {E:Env}{c c':Cx}{b:Nat}{o:O} (H:Ext c c')(hb:b<c.Z.length)(hk:c'.w.heap[c.blk b]?=c.w.heap[c.blk b]?)(h:vQ E c b o):vQ E c' b o:=by
 have e:=H.blk b hb
 cases o with
 |dead=>exact True.intro
 |cells t cs ex=>
  obtain⟨arr,h1,h2,h3,h4,h5,h7,h6⟩:=h
  exact⟨arr,by rw[e,hk];exact h1,by rw[H.tot b hb];exact h2,by rw[H.yL b hb];exact h3,h4,h5,h7,λj v hj=>let ⟨x,a,r⟩:=h6 j v hj; ⟨x,a,r.mono H⟩⟩
 |map es=>
  obtain⟨en,cl,h1,ho,l,hp,h2⟩:=h
  exact⟨en,cl,by rw[e,hk];exact h1,ho,l,hp,h2.mono H⟩
 |Je s pos=>
  obtain⟨bs,h1,h2⟩:=h
  exact⟨bs,h1,by rw[e,hk];exact h2⟩
 |sV left cur=>
  rcases h with⟨h1,h0,h2⟩ | ⟨g,m,en,cl,seen,l,h1,h2,h3,h4,h5,h6,h7⟩
  ·exact .inl ⟨h1,h0,by rw[e,hk];exact h2⟩
  ·obtain⟨k1,k2⟩:=H.wider g m h2
   exact .inr ⟨g,m,en,cl,seen,l,by rw[e,hk];exact h1,k1,by rw[k2];exact h3,h4,h5,h6.mono H,λe he=>by
    obtain⟨x,g1,g2,g3,g4⟩:=h7 e he
    exact⟨x,g1,g2,r_.mono H.wider g3,g4.mono H⟩⟩
structure SR (E:Env) (c:Cx):Prop where
 inj:∀b b',live c.Z b->live c.Z b'->c.blk b=c.blk b'->b=b'
 obj:∀b o,c.Z[b]?=some o->vQ E c b o
 nC:∀b,live c.Z b->¬ c.nC (c.blk b)
 iZ:∀k,c.nC k->k<c.w.heap.size
 gl:∀k p,E.gl k=some p->∃o,c.w.heap[k]?=some o/\p o/\¬ c.own k
theorem pR {E:Env}{c c':Cx}(h:Ext c c')(hg:∀k p,E.gl k=some p->∃o,c.w.heap[k]?=some o/\p o/\¬ c.own k):∀k p,E.gl k=some p->∃o,c'.w.heap[k]?=some o/\p o/\¬ c'.own k:=λk p hk=>by
 obtain⟨o,h1,hp,h2⟩:=hg k p hk
 have hlt:k<c.w.heap.size:=by
  rcases cj k c.w.heap.size with g | g
  ·exact g
  ·rw[Array.getElem?_eq_none g]at h1;cases h1
 obtain⟨h3,h4⟩:=h.keep k hlt h2
 exact⟨o,h3.trans h1,hp,h4⟩
theorem eA {Z:Sg}{b:Nat}(h:live Z b):b<Z.length:=by
 obtain⟨o,ho,_⟩:=h
 exact (AS.1 ho).1
theorem jV {w:World}{k:Nat}{o:Obj}(h:w.heap[k]?=some o):k<w.heap.size:=by
 rcases cj k w.heap.size with g | g
 ·exact g
 ·rw[Array.getElem?_eq_none g]at h;cases h
theorem SR.lt {E:Env}{c:Cx}(h:SR E c) {b:Nat}(hl:live c.Z b):c.blk b<c.w.heap.size:=by
 obtain⟨o,ho,hd⟩:=hl
 have:=h.obj b o ho
 cases o with
 |dead=>cases hd
 |cells t cs ex=>obtain⟨arr,h1,_⟩:=this;exact jV h1
 |map es=>obtain⟨en,cl,h1,_⟩:=this;exact jV h1
 |Je s pos=>obtain⟨bs,_,h1⟩:=this;exact jV h1
 |sV left cur=>
  rcases this with⟨_,_,h1⟩ | ⟨_,_,_,_,_,_,h1,_⟩
  ·exact jV h1
  ·exact jV h1
theorem SR.uO {E:Env}{c:Cx}(h:SR E c) {k:Nat}(hk:c.own k):k<c.w.heap.size:=by
 obtain⟨b,hl,rfl⟩:=hk
 exact h.lt hl
def Cx.alloc (c : Cx) (ob : Obj) (o : O) (n z : Nat) : Cx :=
  { c with w := c.w.alloc ob, Z := c.Z ++ [o], blk := fun b => if b = c.Z.length then c.w.heap.size else c.blk b,
           tot := fun b => if b = c.Z.length then n else c.tot b, yL := fun b => if b = c.Z.length then z else c.yL b }
theorem h_ {Z:Sg}{o:O}{b:Nat}(h:live (Z++[o]) b):live Z b\/(b=Z.length/\o.alive=true):=by
 obtain⟨o',ho,hd⟩:=h
 rw[List.getElem?_append]at ho
 split at ho
 ·exact .inl ⟨o',ho,hd⟩
 ·rename_i hb
  rcases cj (b-Z.length) 1 with h1 | h1
  ·have:b=Z.length:=by omega
   subst this
   simp at ho
   subst ho
   exact .inr ⟨rfl,hd⟩
  ·rw[gu (by simpa using h1)]at ho
   cases ho
theorem Cx.gL {E:Env}{c:Cx}(h:SR E c) (ob:Obj) (o:O) (n z:Nat):Ext c (c.alloc ob o n z) where
 size:=by simp[Cx.alloc]
 keep:=λk hk ho=>by
  refine⟨Go.RowKit.Below.heap_alloc _ _ _ hk,λ⟨b,hl,hb⟩=>?_⟩
  rcases h_ hl with hl | ⟨rfl,_⟩
  ·refine ho ⟨b,hl,?_⟩
   have:=eA hl
   simpa [Cx.alloc,e8 this]using hb
  ·simp[Cx.alloc]at hb;omega
 len:=by simp[Cx.alloc]
 blk:=λb hb=>by simp[Cx.alloc,e8 hb]
 tot:=λb hb=>by simp[Cx.alloc,e8 hb]
 yL:=λb hb=>by simp[Cx.alloc,e8 hb]
 nC:=rfl
 os:=rfl
 tape:=rfl
 output:=rfl
theorem Cx.rX {E:Env}{c:Cx}(h:SR E c) (ob:Obj) (o:O) (n z:Nat)(ho:vQ E (c.alloc ob o n z) c.Z.length o):SR E (c.alloc ob o n z) where
 inj:=λb b' hl hl' e=>by
  rcases h_ hl with hl | ⟨rfl,_⟩ <;> rcases h_ hl' with hl' | ⟨rfl,_⟩
  ·have:=eA hl;have:=eA hl'
   refine h.inj b b' hl hl' ?_
   simpa [Cx.alloc,e8 (eA hl),e8 (eA hl')]using e
  ·have:=h.lt hl
   simp[Cx.alloc,e8 (eA hl)]at e;omega
  ·have:=h.lt hl'
   simp[Cx.alloc,e8 (eA hl')]at e;omega
  ·rfl
 obj:=λb o' hb=>by
  by_cases hlt:b<c.Z.length
  ·have hb':c.Z[b]?=some o':=by simpa [Cx.alloc,bq hlt]using hb
   by_cases hl:live c.Z b
   ·refine (h.obj b o' hb').mono (Cx.gL h ob o n z) hlt ?_
    exact Go.RowKit.Below.heap_alloc _ _ _ (h.lt hl)
   ·cases o' with
    |dead=>exact True.intro
    |_=>exact (hl ⟨_,hb',rfl⟩).elim
  ·have:b=c.Z.length:=by
    have:=(AS.1 hb).1
    simp[Cx.alloc]at this;omega
   subst this
   simp[Cx.alloc]at hb
   subst hb
   exact ho
 nC:=λb hl=>by
  rcases h_ hl with hl | ⟨rfl,_⟩
  ·have:=h.nC b hl
   simpa [Cx.alloc,e8 (eA hl)]using this
  ·intro ha
   have:=h.iZ _ ha
   simp[Cx.alloc]at this
 iZ:=λk hk=>by
  have:=h.iZ k hk
  simp[Cx.alloc];omega
 gl:=pR (Cx.gL h ob o n z) h.gl
def Cx.put (c:Cx) (b:Nat) (ob:Obj) (o:O):Cx:=
 { c with w:={ c.w with heap:=c.w.heap.setIfInBounds (c.blk b) ob },Z:=c.Z.set b o }
theorem zN {Z:Sg}{o:O}{b b':Nat}(hb:live Z b)(h:live (Z.set b o) b'):live Z b':=by
 obtain⟨o',ho,hd⟩:=h
 by_cases e:b=b'
 ·subst e;exact hb
 ·rw[OF e]at ho
  exact⟨o',ho,hd⟩
theorem Cx.nG {c:Cx}{b:Nat}(hl:live c.Z b) (ob:Obj) (o:O):Ext c (c.put b ob o) where
 size:=by simp[Cx.put]
 keep:=λk hk ho=>by
  refine⟨?_,λ⟨b',hl',hb⟩=>ho ⟨b',zN hl hl',hb⟩⟩
  have:c.blk b≠k:=λe=>ho ⟨b,hl,e⟩
  simp[Cx.put,this]
 len:=by simp[Cx.put]
 blk:=λ_ _=>rfl
 tot:=λ_ _=>rfl
 yL:=λ_ _=>rfl
 nC:=rfl
 os:=rfl
 tape:=rfl
 output:=rfl
theorem Cx.xT {E:Env}{c:Cx}(h:SR E c) {b:Nat}(hl:live c.Z b) (ob:Obj) (o:O)(ho:vQ E (c.put b ob o) b o):SR E (c.put b ob o) where
 inj:=λb1 b2 h1 h2 e=>h.inj b1 b2 (zN hl h1) (zN hl h2) e
 obj:=λb' o' hb=>by
  by_cases e:b=b'
  ·subst e
   have:b<c.Z.length:=eA hl
   simp[Cx.put,this]at hb
   subst hb
   exact ho
  ·have hb':c.Z[b']?=some o':=by simpa [Cx.put,OF e]using hb
   by_cases hl':live c.Z b'
   ·refine (h.obj b' o' hb').mono (Cx.nG hl ob o) (eA hl') ?_
    have:c.blk b≠c.blk b':=λe'=>e (h.inj b b' hl hl' e')
    simp[Cx.put,this]
   ·cases o' with
    |dead=>exact True.intro
    |_=>exact (hl' ⟨_,hb',rfl⟩).elim
 nC:=λb' hl'=>h.nC b' (zN hl hl')
 iZ:=λk hk=>by
  have:=h.iZ k hk
  simpa [Cx.put]using this
 gl:=pR (Cx.nG hl ob o) h.gl
def Cx.kill (c:Cx) (b:Nat):Cx:={ c with Z:=c.Z.set b .dead }
theorem gK {Z:Sg}{b b':Nat}(h:live (Z.set b .dead) b'):live Z b'/\b'≠b:=by
 obtain⟨o',ho,hd⟩:=h
 by_cases e:b=b'
 ·subst e
  rw[List.getElem?_set]at ho
  split at ho
  ·split at ho
   ·injection ho with ho;subst ho;cases hd
   ·cases ho
  ·exact absurd rfl (by assumption)
 ·rw[OF e]at ho
  exact⟨⟨o',ho,hd⟩,λx=>e x.symm⟩
theorem Cx.uZ (c:Cx) (b:Nat):Ext c (c.kill b) where
 size:=ae _
 keep:=λ_ _ ho=>⟨rfl,λ⟨b',hl',hb⟩=>ho ⟨b',(gK hl').1,hb⟩⟩
 len:=by simp[Cx.kill]
 blk:=λ_ _=>rfl
 tot:=λ_ _=>rfl
 yL:=λ_ _=>rfl
 nC:=rfl
 os:=rfl
 tape:=rfl
 output:=rfl
theorem Cx.LK {E:Env}{c:Cx}(h:SR E c) (b:Nat):SR E (c.kill b) where
 inj:=λb1 b2 h1 h2 e=>h.inj b1 b2 (gK h1).1 (gK h2).1 e
 obj:=λb' o' hb=>by
  by_cases hl:live (c.Z.set b .dead) b'
  ·have hb':c.Z[b']?=some o':=by
    have:=(gK hl).2
    rw[<- OF (λe=>this e.symm)];exact hb
   exact (h.obj b' o' hb').mono (c.uZ b) (eA (gK hl).1) rfl
  ·cases o' with
   |dead=>exact True.intro
   |_=>exact (hl ⟨_,hb,rfl⟩).elim
 nC:=λb' hl'=>h.nC b' (gK hl').1
 iZ:=h.iZ
 gl:=pR (c.uZ b) h.gl
def Cx.drew (c:Cx):Cx:={ c with w:={ c.w with drawn:=c.w.drawn+1 } }
theorem Cx.kG (c:Cx):Ext c c.drew:=⟨ae _,λ_ _ h=>⟨rfl,h⟩,ae _,λ_ _=>rfl,λ_ _=>rfl,λ_ _=>rfl,rfl,rfl,rfl,rfl⟩
theorem Cx.wN {E:Env}{c:Cx}(h:SR E c):SR E c.drew where
 inj:=h.inj
 obj:=λb o hb=>by
  by_cases hl:live c.Z b
  ·exact (h.obj b o hb).mono c.kG (eA hl) rfl
  ·cases o with
   |dead=>exact True.intro
   |_=>exact (hl ⟨_,hb,rfl⟩).elim
 nC:=h.nC
 iZ:=h.iZ
 gl:=pR c.kG h.gl
section
section inv
variable {c:Cx}{x:Value}
theorem VR.gN {b:Bool}(h:VR c (.bool b) x):x=.bool b:=by cases h with | inl h=>cases h;rfl
theorem VR.eI {k:IntKind}{n:Int}(h:VR c (.int k n) x):x=.int k n:=by cases h with | inl h=>cases h;rfl
theorem VR.eX {s:List Nat}(h:VR c (.str s) x):∃b,x=.string b/\bytes b=s:=by cases h with | inl h=>cases h;exact⟨_,rfl,rfl⟩
theorem VR.pK (h:VR c .fJ x):x=.pointer none:=by cases h with | inl h=>cases h;rfl
theorem VR.hU (h:VR c .aB x):x=.slice none 0 0:=by cases h with | inl h=>cases h;rfl
theorem VR.mC (h:VR c .b_ x):x=.map none:=by cases h with | inl h=>cases h;rfl
theorem VR.zH (h:VR c .rK x):x=.nilFunc:=by cases h with | inl h=>cases h;rfl
theorem VR.zG (h:VR c .rJ x):x=.nilIface:=by cases h with | inl h=>cases h;rfl
theorem VR.iN {b off:Nat}(h:VR c (.ref b off) x):x=.pointer (some ⟨c.blk b,off,none⟩)/\b<c.Z.length:=by
 cases h with | inl h=>cases h | ref b off h=>exact⟨rfl,h⟩
theorem VR.x_ {b:Nat}(h:VR c (.mp b) x):x=.map (some (c.blk b))/\b<c.Z.length:=by
 cases h with | inl h=>cases h | mp b h=>exact⟨rfl,h⟩
theorem VR.mW {b off len:Nat}{cap:Option Nat}(h:VR c (.sl b off len cap) x) :
  ∃cap',x=.slice (some ⟨c.blk b,off,none⟩) len cap'/\b<c.Z.length/\len<=cap'/\(∀k,cap=some k->cap'=k)/\(cap=none->off+cap'*c.yL b=c.tot b):=by
 cases h with | inl h=>cases h | sl b off len cap cap' h hl hk ht=>exact⟨cap',rfl,h,hl,hk,ht⟩
theorem VR.nI {g:Bool}{xs:List (List V)}{full:Bool}(h:VR c (.bT g xs full) x) :
  ∃blk off sp cap sz,x=.slice (some ⟨blk,off,sp⟩) xs.length cap/\((sp=none/\c.bF g blk)\/(xs=[]/\cap=0))/\xs.length<=cap/\(full=true->cap=xs.length)/\eN c.w (sub g c.bF) sz xs blk off:=by
 cases h with | inl h=>cases h with
  |bT _ _ _ blk off len cap sz hi hl hc hf hr=>subst hl;exact⟨blk,off,none,cap,sz,rfl,.inl ⟨rfl,hi⟩,hc,hf,hr⟩
  |emp _ _ a=>exact⟨a.block,a.off,a.spot,0,0,rfl,.inr ⟨rfl,rfl⟩,ae _,λ_=>rfl,.nil⟩
theorem VR.zO {g:Bool}{cs:List V}(h:VR c (.dH g cs) x):∃blk off,x=.pointer (some ⟨blk,off,none⟩)/\c.bF g blk/\dW c.w (sub g c.bF) cs blk off:=by
 cases h with | inl h=>cases h with | dH _ _ blk off hi hr=>exact⟨blk,off,rfl,hi,hr⟩
theorem VR.s_ {g:Bool}{es:List (V × V)}(h:VR c (.imp g es) x) :
  ∃blk entries clock l,x=.map (some blk)/\c.bF g blk/\c.w.heap[blk]?=some (.map entries clock)/\WL entries clock/\l.Perm entries.toList/\rY c.w (sub g c.bF) es l:=by
 cases h with | inl h=>cases h with | imp _ _ blk entries clock l hi hm ho hp hr=>exact⟨blk,entries,clock,l,rfl,hi,hm,ho,hp,hr⟩
theorem VR.tO {cs:List V}(h:VR c (.agg cs) x):∃xs:List Value,x=.agg xs.toArray/\fM c cs xs:=by
 cases h with | inl h=>cases h | agg cs xs h=>exact⟨xs,rfl,h⟩
theorem VR.FV {cs:List V}(h:VR c (.gB cs) x):∃xs:List Value,x=.tuple xs.toArray/\fM c cs xs:=by
 cases h with | inl h=>cases h | gB cs xs h=>exact⟨xs,rfl,h⟩
theorem VR.Gz {t:Nat}{v:V}(h:VR c (.AG t v) x):∃y,x=.iface t y/\VR c v y:=by
 cases h with | inl h=>cases h | AG t v y h=>exact⟨y,rfl,h⟩
theorem VR.Dq {f:Nat}{a b:List V}(h:VR c (.fn f a b) x):∃xs ys:List Value,x=.func (.func f) xs.toArray ys.toArray/\fM c a xs/\fM c b ys:=by
 cases h with
 |inl h=>cases h;exact⟨[],[],rfl,.nil,.nil⟩
 |fn f a b xs ys ha hb=>exact⟨xs,ys,rfl,ha,hb⟩
end inv
theorem fM.len {c:Cx}{cs:List V}{xs:List Value}(h:fM c cs xs):cs.length=xs.length:=by
 induction cs generalizing xs with
 |nil=>cases h;rfl
 |cons v cs ih=>cases h with | cons v x cs xs hv hr=>simp[ih hr]
theorem fM.get {c:Cx}{cs:List V}{xs:List Value}(h:fM c cs xs):∀(j:Nat) (v:V),cs[j]?=some v->∃x,xs[j]?=some x/\VR c v x:=by
 induction cs generalizing xs with
 |nil=>intro j v hj;simp at hj
 |cons v cs ih=>
  cases h with | cons v x cs xs hv hr=>
  intro j u hj
  cases j with
  |zero=>simp at hj;subst hj;exact⟨x,rfl,hv⟩
  |succ j=>exact ih hr j u (by simpa using hj)
theorem fM.qS {c:Cx}:∀{cs:List V}{xs:List Value},cs.length=xs.length->(∀(j:Nat) (v:V),cs[j]?=some v->∃x,xs[j]?=some x/\VR c v x)->fM c cs xs
 | [],[],_,_=>.nil
 |v::cs,x::xs,hl,h=>by
  obtain⟨y,hy,hv⟩:=h 0 v rfl
  simp at hy;subst hy
  exact .cons v x cs xs hv (fM.qS (by simpa using hl) λj u hj=>by simpa using h (j+1) u (by simpa using hj))
theorem fM.append {c:Cx}{a b:List V}{xs ys:List Value}(h:fM c a xs) (k:fM c b ys):fM c (a++b) (xs++ys):=by
 induction a generalizing xs with
 |nil=>cases h;exact k
 |cons v a ih=>cases h with | cons v x cs xs hv hr=>exact .cons _ _ _ _ hv (ih hr)
theorem fM.take {c:Cx}{a:List V}{xs:List Value}(h:fM c a xs) (n:Nat):fM c (a.take n) (xs.take n):=by
 induction a generalizing xs n with
 |nil=>cases h;simp;exact .nil
 |cons v a ih=>cases h with | cons v x cs xs hv hr=>cases n with
  |zero=>simp;exact .nil
  |succ n=>simp;exact .cons _ _ _ _ hv (ih hr n)
theorem fM.drop {c:Cx}{a:List V}{xs:List Value}(h:fM c a xs) (n:Nat):fM c (a.drop n) (xs.drop n):=by
 induction a generalizing xs n with
 |nil=>cases h;simp;exact .nil
 |cons v a ih=>cases h with | cons v x cs xs hv hr=>cases n with
  |zero=>simp;exact .cons _ _ _ _ hv hr
  |succ n=>simp;exact ih hr n
theorem fM.set {c:Cx}{a:List V}{xs:List Value}(h:fM c a xs) {v:V}{x:Value}(hv:VR c v x) (n:Nat):fM c (a.set n v) (xs.set n x):=by
 induction a generalizing xs n with
 |nil=>cases h;simp;exact .nil
 |cons u a ih=>cases h with | cons u y cs xs hu hr=>cases n with
  |zero=>simp;exact .cons _ _ _ _ hv hr
  |succ n=>simp;exact .cons _ _ _ _ hu (ih hr n)
theorem fM.replicate (c:Cx) (n:Nat):fM c (List.replicate n .undef) (List.replicate n Go.undef):=by
 induction n with
 |zero=>exact .nil
 |succ n ih=>exact .cons _ _ _ _ .undef ih
theorem VR.cells {c:Cx}{v:V}{x:Value}(h:VR c v x):fM c v.cells x.cells.toList:=by
 have one:∀{v:V}{x:Value},VR c v x->fM c [v] [x]:=λh=>.cons _ _ _ _ h .nil
 cases h with
 |agg cs xs h=>simpa [V.cells,Value.cells]using h
 |inl h=>have h':=h;cases h <;> exact one (.inl h')
 |ref b off h=>exact one (.ref b off h)
 |sl b off len cap cap' h hl hk ht=>exact one (.sl b off len cap cap' h hl hk ht)
 |mp b h=>exact one (.mp b h)
 |fn f a b xs ys ha hb=>exact one (.fn f a b xs ys ha hb)
 |gB cs xs h=>exact one (.gB cs xs h)
 |AG t v x h=>exact one (.AG t v x h)
 |undef=>exact one .undef
theorem VR.aW {c:Cx}{v:V}{x:Value}(h:VR c v x)(hk:v.aW=true):x.oneCell'=true:=by
 cases h with
 |agg cs xs h=>cases hk
 |gB cs xs h=>cases hk
 |undef=>cases hk
 |inl h=>cases h <;> rfl
 |_=>rfl
theorem fM.lZ {c:Cx}{cs:List V}{xs:List Value}(h:fM c cs xs)(hk:cs.all V.aW=true):∀x∈xs,x.oneCell'=true:=by
 induction cs generalizing xs with
 |nil=>cases h;simp
 |cons v cs ih=>
  cases h with | cons v x cs xs hv hr=>
  simp only[ig,ah]at hk
  intro y hy
  rcases By.1 hy with rfl | hy
  ·exact hv.aW hk.1
  ·exact ih hr hk.2 y hy
theorem IR.aW {w:World}{I:Bool->Nat->Prop}{v:V}{x:Value}(h:IR w I v x):v.aW=true:=by cases h <;> rfl
theorem BQ.lZ {w:World}{I:Bool->Nat->Prop}{cs:List V}{xs:List Value}(h:BQ w I cs xs):cs.all V.aW=true:=by
 induction cs generalizing xs with
 |nil=>rfl
 |cons v cs ih=>cases h with | cons v x cs xs hv hr=>simp[hv.aW,ih hr]
theorem r_.lZ {w:World}{I:Bool->Nat->Prop}{v:V}{x:Value}(h:r_ w I v x):v.cells.all V.aW=true:=by
 cases h with
 |one h=>cases h <;> rfl
 |agg cs xs h=>exact h.lZ
theorem Dh {c:Cx}{g h:Bool}{k:Nat}(hk:c.bF (g&&h) k):c.bF h k:=⟨hk.1,hk.2.1,λe=>hk.2.2 (by simp[e])⟩
theorem vT (c:Cx) (g:Bool):qN c.w c.w (sub g c.bF) c.bF:=λ_ _ hk=>⟨Dh hk,rfl⟩
theorem BQ.vrs {c:Cx}{cs:List V}{xs:List Value}(h:BQ c.w c.bF cs xs):fM c cs xs:=by
 induction cs generalizing xs with
 |nil=>cases h;exact .nil
 |cons v cs ih=>cases h with | cons v x cs xs hv hr=>exact .cons _ _ _ _ (.inl hv) (ih hr)
theorem r_.vr {c:Cx}{v:V}{x:Value}(h:r_ c.w c.bF v x):VR c v x:=by
 cases h with
 |one h=>exact .inl h
 |agg cs xs h=>exact .agg cs xs h.vrs
theorem dW.get {w:World}{I:Bool->Nat->Prop}{cs:List V}{blk off:Nat}(h:dW w I cs blk off):∀(j:Nat) (v:V),cs[j]?=some v->∃x,w.cell? ⟨blk,off+j,none⟩=some x/\IR w I v x:=by
 induction cs generalizing off with
 |nil=>intro j v hj;simp at hj
 |cons v cs ih=>
  cases h with | cons v x cs hc hv hr=>
  intro j u hj
  cases j with
  |zero=>simp at hj;subst hj;exact⟨x,hc,hv⟩
  |succ j=>
   obtain⟨y,hy,hu⟩:=ih hr j u (by simpa using hj)
   exact⟨y,by rw[show off+(j+1)=off+1+j by omega];exact hy,hu⟩
theorem dW.qS {w:World}{I:Bool->Nat->Prop}:∀{cs:List V}{blk off:Nat},(∀(j:Nat) (v:V),cs[j]?=some v->∃x,w.cell? ⟨blk,off+j,none⟩=some x/\IR w I v x)->dW w I cs blk off
 | [],_,_,_=>.nil
 |v::cs,blk,off,h=>by
  obtain⟨x,hx,hv⟩:=h 0 v rfl
  exact .cons v x cs hx hv (dW.qS λj u hj=>by
   obtain⟨y,hy,hu⟩:=h (j+1) u (by simpa using hj)
   exact⟨y,by rw[show off+1+j=off+(j+1) by omega];exact hy,hu⟩)
theorem dW.drop {w:World}{I:Bool->Nat->Prop}{cs:List V}{blk off:Nat}(h:dW w I cs blk off) (n:Nat):dW w I (cs.drop n) blk (off+n):=
 .qS λj v hj=>by
  obtain⟨x,hx,hv⟩:=h.get (n+j) v (by simpa using hj)
  exact⟨x,by rw[show off+n+j=off+(n+j) by omega];exact hx,hv⟩
theorem dW.vals {w:World}{I:Bool->Nat->Prop}{cs:List V}{blk off:Nat}(h:dW w I cs blk off) :
  ∃xs:List Value,BQ w I cs xs/\∀(j:Nat) (x:Value),xs[j]?=some x->w.cell? ⟨blk,off+j,none⟩=some x:=by
 induction cs generalizing off with
 |nil=>exact⟨[],.nil,by intro j x hj;simp at hj⟩
 |cons v cs ih=>
  cases h with | cons v x cs hc hv hr=>
  obtain⟨xs,h1,h2⟩:=ih hr
  refine⟨x::xs,.cons v x cs xs hv h1,λj y hj=>?_⟩
  cases j with
  |zero=>simp at hj;subst hj;exact hc
  |succ j=>rw[show off+(j+1)=off+1+j by omega];exact h2 j y (by simpa using hj)
theorem vQ.jL {E:Env}{c:Cx}{b t:Nat}{cs:List V}{ex:Bool}(h:vQ E c b (.cells t cs ex)) :
  ∃arr,c.w.heap[c.blk b]?=some (.cells arr t (0,0))/\arr.size=c.tot b/\(∃i,E.ty t=some i/\c.yL b=i.size)/\cs.length<=arr.size/\(ex=true->cs.length=arr.size) /\
   fM c cs (arr.toList.take cs.length)/\cs.all V.aW=true:=by
 obtain⟨arr,h1,h2,h3,h4,h5,h7,h6⟩:=h
 refine⟨arr,h1,h2,h3,h4,h5,fM.qS (by simp;omega) (λj v hj=>?_),h7⟩
 obtain⟨x,hx,hv⟩:=h6 j v hj
 have:j<cs.length:=(AS.1 hj).1
 exact⟨x,by simp[this,hx],hv⟩
theorem vQ.zZ {E:Env}{c:Cx}{b t:Nat}{cs:List V}{ex:Bool}{arr:Array Value}(h1:c.w.heap[c.blk b]?=some (.cells arr t (0,0)))(h2:arr.size=c.tot b)(h3:∃i,E.ty t=some i/\c.yL b=i.size)
  (h5:ex=true->cs.length=arr.size) {xs ys:List Value}(ha:arr.toList=xs++ys)(hv:fM c cs xs)(hok:cs.all V.aW=true):vQ E c b (.cells t cs ex):=by
 have hl:=hv.len
 have hs:arr.size=xs.length+ys.length:=by rw[<- ij,ha];simp
 refine⟨arr,h1,h2,h3,by omega,h5,hok,λj v hj=>?_⟩
 obtain⟨x,hx,hr⟩:=hv.get j v hj
 refine⟨x,?_,hr⟩
 have:j<xs.length:=(AS.1 hx).1
 rw[<- Array.getElem?_toList,ha,bq this]
 exact hx
def oN (d:TypeDesc):Kd->Prop
 | .bool=>d=.bool
 | .int k=>d=.int k
 | .str=>d=.string
 | .ptr e=>d=.pointer e
 | .sl e=>d=.slice e
 | .arr n e=>d=.array n e
 | .map k e=>d=.map k e
 | .jR fs=>∃a:Array Field,d=.struct a/\a.toList.map (λf=>(f.offset,f.type))=fs
 | .func=>∃p r v,d=.func p r v
 | .AG=>∃m,d=.interface m
 | .other=>d=.unsafePointer
structure wS (P:Program) (t:Nat) (i:Ty):Prop where
 info:∃inf,P.info? t=some inf/\inf.size=i.size/\inf.bytes=i.bytes/\∃z,inf.zero=some z/\z.cells.size=i.size/\∀w I,r_ w I i.zero z
 kd:∃d,P.underlying t=some d/\oN d i.kd
 WQ:i.zero.cells.length=i.size
theorem run_typeInfo {P:Program}{t:Nat}{inf:TypeInfo}(h:P.info? t=some inf) (w:World):(typeInfo t).run P w=.ok inf w:=by simp[typeInfo,h]
theorem wS.size {P:Program}{t:Nat}{i:Ty}(h:wS P t i) (w:World):(sizeOf t).run P w=.ok i.size w:=by
 obtain⟨inf,h1,h2,_⟩:=h.info
 simp[sizeOf,run_typeInfo h1,h2]
theorem wS.zero {P:Program}{t:Nat}{i:Ty}(h:wS P t i):∃z,(∀w,(zeroValue t).run P w=.ok z w)/\(∀w I,r_ w I i.zero z)/\z.cells.size=i.size:=by
 obtain⟨inf,h1,_,_,z,h4,h6,h5⟩:=h.info
 exact⟨z,λw=>by simp[zeroValue,run_typeInfo h1,h4],h5,h6⟩
theorem wS.isAgg {P:Program}{t:Nat}{i:Ty}(h:wS P t i) (w:World):(Go.isAgg t).run P w=.ok (Ax.isAgg i.kd) w:=by
 obtain⟨d,h1,h2⟩:=h.kd
 simp only[Go.isAgg,Sem.run_bind,run_underlying h1,Result.andThen_ok]
 cases hk:i.kd <;> rw[hk]at h2 <;> simp only[oN]at h2 <;> first
  |(subst h2;rfl)
  |(obtain⟨a,rfl,_⟩:=h2;rfl)
  |(obtain⟨a,b,c,rfl⟩:=h2;rfl)
  |(obtain⟨a,rfl⟩:=h2;rfl)
theorem uR {c:Cx}{x:Value}{v:V}(h:bK x=some v):IR c.w c.bF v x:=by
 cases x <;> simp only[bK]at h <;> first
  |(cases h;done)
  |(injection h with h;subst h;first | exact .bool _ | exact .int _ _ | exact .str _ | exact .rK | exact .rJ)
  |skip
 ·rename_i a;cases a <;> simp at h;subst h;exact .fJ
 ·rename_i a l k
  cases a <;> cases l <;> cases k <;> simp at h
  subst h;exact .aB
 ·rename_i a;cases a <;> simp at h;subst h;exact .b_
theorem uQ {c:Cx}:∀{xs:List Value}{l:List V},ofValues xs=some l->fM c l xs
 | [],l,h=>by simp[ofValues]at h;subst h;exact .nil
 |x::r,l,h=>by
  simp only[ofValues]at h
  split at h
  ·rename_i v l' h1 h2
   injection h with h;subst h
   exact .cons _ _ _ _ (.inl (uR h1)) (uQ h2)
  ·cases h
theorem D6 {c:Cx}{x:Value}{v:V}(h:ofValue x=some v):VR c v x:=by
 unfold ofValue at h
 split at h
 ·rename_i cs
  split at h
  ·rename_i l hl
   injection h with h;subst h
   have:=VR.agg l cs.toList (uQ (c:=c) hl)
   simpa using this
  ·cases h
 ·exact .inl (uR h)
theorem oh {a b:Nat}(h:Nat.beq a b=true):a=b:=j6 h
theorem om {a b:Nat}(h:Nat.beq a b=false):a≠b:=Nat.ne_of_beq_eq_false h
theorem IP {a b:Nat}(h:Nat.blt a b=true):a<b:=by simpa [od]using h
theorem AR {a b:Nat}(h:Nat.blt a b=false):¬ a<b:=λg=>by
 have:Nat.blt a b=true:=by simpa [od]using g
 rw[h]at this;cases this
theorem FT.vD (t:Nat):FT.leaf.get t=.undef:=rfl
theorem FT.pS (v:V) (l r:FT) (t:Nat):(FT.node v l r).get t=match Nat.beq t 0 with
  |true=>v
  |false=>match Nat.beq (t % 2) 1 with
   |true=>l.get (t / 2)
   |false=>r.get (t / 2-1):=rfl
theorem FT.Pt (v:V) (k t:Nat):FT.put v (k+1) .leaf t=match Nat.beq t 0 with
  |true=>.node v .leaf .leaf
  |false=>match Nat.beq (t % 2) 1 with
   |true=>.node .undef (FT.put v k .leaf (t / 2)) .leaf
   |false=>.node .undef .leaf (FT.put v k .leaf (t / 2-1)):=rfl
theorem FT.Pr (v u:V) (l r:FT) (k t:Nat):FT.put v (k+1) (.node u l r) t=match Nat.beq t 0 with
  |true=>.node v l r
  |false=>match Nat.beq (t % 2) 1 with
   |true=>.node u (FT.put v k l (t / 2)) r
   |false=>.node u l (FT.put v k r (t / 2-1)):=rfl
theorem FT.aG (v:V):∀(k:Nat) (f:FT) (t t':Nat),t<k->(FT.put v k f t).get t'=if t'=t then v else f.get t'
 |0,f,t,t',h=>by omega
 |k+1,f,t,t',h=>by
  have ih:=FT.aG v k
  have e0:∀u,(FT.node .undef .leaf .leaf).get u=(FT.leaf).get u:=by
   intro u
   simp only[FT.pS,FT.vD]
   repeat' split
   all_goals rfl
  cases f with
  |leaf=>
   rw[<- e0 t']
   simp only[FT.Pt]
   cases h0:Nat.beq t 0 with
   |true=>
    have:=oh h0;subst this
    simp only[FT.pS,FT.vD]
    cases h1:Nat.beq t' 0 with
    |true=>have:=oh h1;simp[this]
    |false=>have:=om h1;simp[this]
   |false=>
    have g0:=om h0
    cases h2:Nat.beq (t % 2) 1 with
    |true=>
     have g2:=oh h2
     simp only[FT.pS,FT.vD]
     cases h1:Nat.beq t' 0 with
     |true=>have:=oh h1;subst this;simp[g0.symm]
     |false=>
      cases h3:Nat.beq (t' % 2) 1 with
      |true=>
       have g3:=oh h3
       dsimp only
       rw[ih _ _ _ (by omega)]
       by_cases e:t'=t
       ·subst e;simp
       ·rw[ay e,ay (by omega)];rfl
      |false=>
       have g3:=om h3
       have e:t'≠t:=by omega
       simp[e]
    |false=>
     have g2:=om h2
     simp only[FT.pS,FT.vD]
     cases h1:Nat.beq t' 0 with
     |true=>have:=oh h1;subst this;simp[g0.symm]
     |false=>
      have g1:=om h1
      cases h3:Nat.beq (t' % 2) 1 with
      |true=>
       have g3:=oh h3
       have e:t'≠t:=by omega
       simp[e]
      |false=>
       have g3:=om h3
       dsimp only
       rw[ih _ _ _ (by omega)]
       by_cases e:t'=t
       ·subst e;simp
       ·rw[ay e,ay (by omega)];rfl
  |node u l r=>
   simp only[FT.Pr]
   cases h0:Nat.beq t 0 with
   |true=>
    have:=oh h0;subst this
    simp only[FT.pS]
    cases h1:Nat.beq t' 0 with
    |true=>have:=oh h1;simp[this]
    |false=>have:=om h1;simp[this]
   |false=>
    have g0:=om h0
    cases h2:Nat.beq (t % 2) 1 with
    |true=>
     have g2:=oh h2
     simp only[FT.pS]
     cases h1:Nat.beq t' 0 with
     |true=>have:=oh h1;subst this;simp[g0.symm]
     |false=>
      cases h3:Nat.beq (t' % 2) 1 with
      |true=>
       have g3:=oh h3
       dsimp only
       rw[ih _ _ _ (by omega)]
       by_cases e:t'=t
       ·subst e;simp
       ·rw[ay e,ay (by omega)]
      |false=>
       have g3:=om h3
       have e:t'≠t:=by omega
       simp[e]
    |false=>
     have g2:=om h2
     simp only[FT.pS]
     cases h1:Nat.beq t' 0 with
     |true=>have:=oh h1;subst this;simp[g0.symm]
     |false=>
      have g1:=om h1
      cases h3:Nat.beq (t' % 2) 1 with
      |true=>
       have g3:=oh h3
       have e:t'≠t:=by omega
       simp[e]
      |false=>
       have g3:=om h3
       dsimp only
       rw[ih _ _ _ (by omega)]
       by_cases e:t'=t
       ·subst e;simp
       ·rw[ay e,ay (by omega)]
theorem Fr.bA (fr:Fr) (d:Nat) (v:V):(fr.put d v).n=fr.n:=by
 unfold Fr.put
 split <;> rfl
theorem Fr.get_some {fr:Fr}{t:Nat}{v:V}(h:fr.get t=some v):t<fr.n:=by
 unfold Fr.get at h
 split at h
 ·rename_i g;exact IP g
 ·cases h
theorem Fr.aG (fr:Fr) (d:Nat) (v:V) (t:Nat):(fr.put d v).get t=if t=d/\d<fr.n then some v else fr.get t:=by
 unfold Fr.put
 cases h:Nat.blt d fr.n with
 |true=>
  have g:=IP h
  simp only[Fr.get]
  cases h':Nat.blt t fr.n with
  |true=>
   dsimp only
   rw[FT.aG v _ _ _ _ (by omega)]
   by_cases e:t=d
   ·rw[b8 e,b8 ⟨e,g⟩]
   ·rw[ay e,ay (λx=>e x.1)]
  |false=>
   have g':=AR h'
   dsimp only
   rw[ay (λx=>g' (by rw[x.1];exact x.2))]
 |false=>
  have g:=AR h
  rw[ay (λx=>g x.2)]
def FR (c:Cx) (fr:Fr) (tmps:Array Value):Prop:=fr.n=tmps.size/\∀t v,fr.get t=some v->∃x,tmps[t]?=some x/\VR c v x
theorem FR.get {c:Cx}{fr:Fr}{tmps:Array Value}(h:FR c fr tmps) {t:Nat}{v:V}(hv:fr.get t=some v):VR c v (tmps.getD t Go.undef):=by
 obtain⟨x,hx,hr⟩:=h.2 t v hv
 rw[kg,hx]
 exact hr
theorem FR.mono {c c':Cx} (H:Ext c c') {fr:Fr}{tmps:Array Value}(h:FR c fr tmps):FR c' fr tmps:=
 ⟨h.1,λt v hv=>let ⟨x,hx,hr⟩:=h.2 t v hv; ⟨x,hx,hr.mono H⟩⟩
theorem FR.set {c:Cx}{fr:Fr}{tmps:Array Value}(h:FR c fr tmps) {v:V}{x:Value}(hv:VR c v x) (d:Nat):FR c (fr.put d v) (tmps.setIfInBounds d x):=by
 refine⟨by rw[Fr.bA,h.1];simp,λt u hu=>?_⟩
 rw[Fr.aG]at hu
 split at hu
 ·rename_i e
  injection hu with hu;subst hu
  obtain⟨rfl,hlt⟩:=e
  rw[h.1]at hlt
  exact⟨x,by simp[hlt],hv⟩
 ·rename_i e
  obtain⟨y,hy,hr⟩:=h.2 t u hu
  refine⟨y,?_,hr⟩
  have hlt:=Fr.get_some hu
  rw[jt]
  split
  ·rename_i e'
   subst e'
   exact (e ⟨rfl,hlt⟩).elim
  ·exact hy
theorem FR.fill {c:Cx}:∀{vs:List V}{xs:List Value}(h:fM c vs xs) {fr:Fr}{tmps:Array Value} (i:Nat),FR c fr tmps->i+vs.length<=tmps.size ->
  FR c (fr.fill i vs) (tmps.toList.take i++xs++tmps.toList.drop (i+xs.length)).toArray
 | [],xs,h,fr,tmps,i,hf,hl=>by
  cases h
  simpa [Fr.fill]using hf
 |v::vs,xs,h,fr,tmps,i,hf,hl=>by
  cases h with | cons _ x _ xs hv hr=>
  simp only[Fr.fill]
  simp only[aa]at hl
  have hf':=hf.set hv i
  have:=FR.fill hr (i+1) hf' (by simp;omega)
  have e:((tmps.setIfInBounds i x).toList.take (i+1)++xs++(tmps.setIfInBounds i x).toList.drop (i+1+xs.length))=(tmps.toList.take i++(x::xs)++tmps.toList.drop (i+(x::xs).length)):=by
   have hlt:i<tmps.toList.length:=by simp;omega
   rw[Array.toList_setIfInBounds,List.take_set,List.drop_set]
   have e1:(tmps.toList.take (i+1)).set i x=tmps.toList.take i++[x]:=by
    have hm:min i tmps.size=i:=by simp at hlt;omega
    rw[List.take_succ_eq_append_getElem hlt,mc _ _ (by simp;omega)]
    simp[hm]
   rw[e1,b8 (by omega)]
   simp[qh,ki 1]
  rw[e]at this
  exact this
theorem FR.init {c:Cx}{n:Nat}{vs:List V}{xs:List Value}(h:fM c vs xs) {fr:Fr}(hi:Fr.init n vs=some fr):FR c fr (xs.toArray++Array.replicate (n-xs.length) Go.undef):=by
 unfold Fr.init at hi
 split at hi
 case h_2=>cases hi
 rename_i hle
 have hle':vs.length<=n:=je hle
 injection hi with hi;subst hi
 have h0:FR c ⟨n,.leaf⟩ (Array.replicate n Go.undef):=by
  refine⟨by simp,λt v hv=>?_⟩
  have hlt:=Fr.get_some hv
  unfold Fr.get at hv
  split at hv
  ·injection hv with hv;subst hv
   exact⟨Go.undef,by simp at hlt;simp[hlt],.undef⟩
  ·cases hv
 have:=FR.fill h 0 h0 (by simp;omega)
 have e:((Array.replicate n Go.undef).toList.take 0++xs++(Array.replicate n Go.undef).toList.drop (0+xs.length)).toArray=xs.toArray++Array.replicate (n-xs.length) Go.undef:=by
  apply pq
  simp
 rw[e]at this
 exact this
theorem aN {c:Cx}{fr:Fr}{a:Act}(h:FR c fr a.tmps) {o:Operand}{v:V}(he:aT fr o=some v):VR c v (a.eval o):=by
 cases o with
 |tmp t=>exact FR.get h he
 |const x=>exact D6 he
 |global g=>cases he
 |func f=>simp only[aT]at he;injection he with he;subst he;exact .inl (.fn f)
theorem kM {c:Cx}{fr:Fr}{a:Act}(h:FR c fr a.tmps):∀{os:List Operand}{vs:List V},fA fr os=some vs->fM c vs (os.map a.eval)
 | [],vs,he=>by simp[fA]at he;subst he;exact .nil
 |o::os,vs,he=>by
  simp only[fA]at he
  split at he
  ·rename_i v l h1 h2
   injection he with he;subst he
   exact .cons _ _ _ _ (aN h h1) (kM h h2)
  ·cases he
end
section
inductive Sc:List Kd->List V->List Value->Prop
 |nil:Sc [] [] []
 |bool (b:Bool) (sh:List Kd) (vs:List V) (xs:List Value)(h:Sc sh vs xs):Sc (.bool::sh) (.bool b::vs) (.bool b::xs)
 |int (k:IntKind) (n:Int) (sh:List Kd) (vs:List V) (xs:List Value)(h:Sc sh vs xs):Sc (.int k::sh) (.int k n::vs) (.int k n::xs)
 |str (s:ByteArray) (sh:List Kd) (vs:List V) (xs:List Value)(h:Sc sh vs xs):Sc (.str::sh) (.str (bytes s)::vs) (.string s::xs)
structure jC (P:Program) (t:Nat) (sh:List Kd):Prop where
 eq:∀w as bs xs ys b,eqs sh as bs=some b->Sc sh as xs->Sc sh bs ys->(Op.equal t (.agg xs.toArray) (.agg ys.toArray)).run P w=.ok b w
 guard:∀w op x y xs ys as bs,Sc sh as xs->Sc sh bs ys->(eqGuard op t x y (.agg xs.toArray) (.agg ys.toArray)).run P w=.ok () w
 key:∀w e as xs,Sc sh as xs->(Instr.checkKey e 10000 t (.agg xs.toArray)).run P w=.ok () w
 jR:∃a,P.underlying t=some (.struct a)
structure cQ (P:Program) (E:Env):Prop where
 ty:∀t i,E.ty t=some i->wS P t i
 eqs:∀t sh,E.eqs t=some sh->jC P t sh
 DY:∀t,E.DY t=true->liesAt P P.depth t 1 0 t 1=true
def Good (E:Env) (c:Cx) (r:Result Next) (v:V) (σ':Sg):Prop:=
 ∃(c':Cx) (x:Value),(r=.ok (.value x) c'.w\/(r=.ok .skip c'.w/\x=Go.undef))/\c'.Z=σ'/\Ext c c'/\SR E c'/\VR c' v x
theorem Good.same {E:Env}{c:Cx}{r:Result Next}{v:V}{x:Value}(hs:SR E c)(hr:r=.ok (.value x) c.w)(hv:VR c v x):Good E c r v c.Z:=
 ⟨c,x,.inl hr,rfl,Ext.refl c,hs,hv⟩
theorem nK {w:World}{k o:Nat}{arr:Array Value}{t:Nat}{fr:Nat × Nat}(h:w.heap[k]?=some (.cells arr t fr)):w.cell? ⟨k,o,none⟩=arr[o]?:=by
 simp[World.cell?,h]
theorem A_ {P:Program}{t:Nat}{i:Ty}(h:wS P t i) (a:Addr) (w:World) :
  (loadVar t a).run P w=if Ax.isAgg i.kd=true then ((loadCells a i.size).run P w).andThen λcs w=>.ok (.agg cs) w else (load a).run P w:=by
 unfold loadVar
 simp only[Sem.run_bind,h.isAgg,Result.andThen_ok]
 cases Ax.isAgg i.kd <;> simp[h.size]
theorem jT {P:Program}{w:World}{k o n:Nat}{xs:List Value}(hl:xs.length=n)(h:∀(j:Nat) (x:Value),xs[j]?=some x->w.cell? ⟨k,o+j,none⟩=some x) :
  (loadCells ⟨k,o,none⟩ n).run P w=.ok xs.toArray w:=by
 subst hl
 exact run_loadCells_list w _ xs λj v hj=>by rw[Addr.add_lit];exact h j v hj
section
variable {P:Program}{E:Env}{c:Cx}
theorem C8 (he:cQ P E)(hs:SR E c) {t:Nat}{av v:V}{ax:Value}(h:loadAt E c.Z t av=some v)(hv:VR c av ax) :
  ∃x,(Instr.loadAt t ax).run P c.w=.ok x c.w/\VR c v x:=by
 unfold loadAt at h
 split at h
 ·cases h
 ·rename_i i hi
  have ht:=he.ty t i hi
  split at h
  ·rename_i b off
   obtain⟨rfl,hb⟩:=hv.iN
   split at h
   ·rename_i u cs ex hob
    obtain⟨arr,h1,h2,h3,h4,h5,h6,_⟩:=(hs.obj b _ hob).jL
    simp only[Instr.loadAt,Instr.sureAddr,Sem.run_bind,Sem.run_pure,Result.andThen_ok,A_ ht]
    split at h
    ·rename_i hag
     rw[b8 hag]
     split at h
     ·rename_i hle
      injection h with h;subst h
      have hl:((arr.toList.drop off).take i.size).length=i.size:=by simp;omega
      rw[jT hl (λj x hj=>by
       rw[nK h1]
       have hj':j<i.size:=by have:=(AS.1 hj).1;omega
       simp only[gw,hj',b9,me,Array.getElem?_toList]at hj
       exact hj)]
      refine⟨_,rfl,.agg _ _ ?_⟩
      have:=(h6.drop off).take i.size
      have e:((arr.toList.take cs.length).drop off).take i.size=(arr.toList.drop off).take i.size:=by
       rw[List.drop_take,qa,mw (by omega)]
      rwa [e]at this
     ·cases h
    ·rename_i hag
     rw[ay hag]
     obtain⟨x,hx,hr⟩:=h6.get off v h
     have hlt:off<cs.length:=(AS.1 h).1
     have hx':arr[off]?=some x:=by simpa [gw,hlt]using hx
     exact⟨x,by simp[run_load,nK h1,hx'],hr⟩
   ·cases h
  ·rename_i g cs
   obtain⟨blk,off,rfl,hi',hc⟩:=hv.zO
   obtain⟨xs,hxs,hcell⟩:=hc.vals
   have hV:fM c cs xs:=(hxs.mono (vT c g)).vrs
   simp only[Instr.loadAt,Instr.sureAddr,Sem.run_bind,Sem.run_pure,Result.andThen_ok,A_ ht]
   split at h
   ·rename_i hag
    rw[b8 hag]
    split at h
    ·rename_i hle
     injection h with h;subst h
     have hl:(xs.take i.size).length=i.size:=by have:=hV.len;simp;omega
     rw[jT hl (λj x hj=>hcell j x (by
      have hj':j<i.size:=by have:=(AS.1 hj).1;omega
      simpa [gw,hj']using hj))]
     exact⟨_,rfl,.agg _ _ (hV.take _)⟩
    ·cases h
   ·rename_i hag
    rw[ay hag]
    have h0:cs[0]?=some v:=by cases cs <;> simp_all
    obtain⟨x,hx,hr⟩:=hV.get 0 v h0
    have:=hcell 0 x hx
    exact⟨x,by simp only[kj]at this;simp[run_load,this],hr⟩
  ·cases h
theorem Aj {w:World}{g:Nat}{arr new:Array Value}{t:Nat}{fr:Nat × Nat}(h:w.heap[g]?=some (.cells arr t fr)) :
  w.setRow g new={ w with heap:=w.heap.setIfInBounds g (.cells new t fr) }:=by
 have:(w.setRow g new).heap=w.heap.setIfInBounds g (.cells new t fr):=by
  apply Array.ext_getElem?
  intro k
  by_cases e:g=k
  ·subst e
   rw[setRow_heap w g arr new t fr h]
   have:=jV h
   simp[this]
  ·rw[setRow_other w g k new (λx=>e x.symm)]
   simp[e]
 cases w
 simp only[World.setRow]at this ⊢
 simp only[this]
theorem Pz {cs vs:List V}{off:Nat}(h:cs.all V.aW=true) (k:vs.all V.aW=true):(setCells cs off vs).all V.aW=true:=by
 simp only[setCells,my,ah,dw]at *
 exact⟨⟨λx hx=>h x (ji hx),k⟩,λx hx=>h x (List.mem_of_mem_drop hx)⟩
theorem Ao (hs:SR E c) {b t:Nat}{cs:List V}{ex:Bool}(hob:c.Z[b]?=some (.cells t cs ex)) {off:Nat}{vs:List V}{xs:List Value}
  (hv:fM c vs xs)(h1:vs.all V.aW=true)(hl:off+vs.length<=cs.length) :
  ∃c',(storeCells ⟨c.blk b,off,none⟩ xs 0).run P c.w=.ok () c'.w/\c'.Z=c.Z.set b (.cells t (setCells cs off vs) ex)/\Ext c c'/\SR E c':=by
 obtain⟨arr,g1,g2,g3,g4,g5,g6,g7⟩:=(hs.obj b _ hob).jL
 have hlv:live c.Z b:=⟨_,hob,rfl⟩
 have hlen:=hv.len
 have hlc:=g6.len
 have hrun:=run_storeCells_at (P:=P) (c.blk b) off t xs 0 arr c.w g1 (by omega) (hv.lZ h1)
 rw[Aj g1]at hrun
 refine⟨c.put b (.cells (arr.toList.take (off+0)++xs++arr.toList.drop (off+0+xs.length)).toArray t (0,0)) (.cells t (setCells cs off vs) ex),hrun,rfl,Cx.nG hlv _ _,Cx.xT hs hlv _ _ ?_⟩
 have hlt:=jV g1
 have hext:=Cx.nG hlv (.cells (arr.toList.take (off+0)++xs++arr.toList.drop (off+0+xs.length)).toArray t (0,0)) (.cells t (setCells cs off vs) ex)
 refine vQ.zZ (arr:=(arr.toList.take (off+0)++xs++arr.toList.drop (off+0+xs.length)).toArray) (xs:=arr.toList.take off++xs++(arr.toList.take cs.length).drop (off+xs.length)) (ys:=arr.toList.drop cs.length) ?_ ?_ g3 ?_ ?_ ?_ ?_
 ·simp[Cx.put,hlt]
 ·simp[Cx.put];omega
 ·intro e
  have:=g5 e
  simp[setCells];omega
 ·simp only[kj,cm]
  congr 2
  have e1:arr.toList.drop (off+xs.length)=(arr.toList.take cs.length++arr.toList.drop cs.length).drop (off+xs.length):=by rw[List.take_append_drop]
  rw[e1,List.drop_append_of_le_length (by simp;omega)]
 ·have e2:(arr.toList.take cs.length).take off=arr.toList.take off:=by rw[qa,mw (by omega)]
  have:=((g6.take off).append hv).append (g6.drop (off+vs.length))
  rw[e2,hlen]at this
  have:=fM.mono hext this
  simpa [setCells,hlen]using this
 ·exact Pz g7 h1
theorem Hf (he:cQ P E)(hs:SR E c) {t:Nat}{av v:V}{ax x:Value}{σ':Sg}(h:storeAt E c.Z t av v=some σ')(ha:VR c av ax)(hv:VR c v x) :
  ∃c',(Instr.storeAt t ax x).run P c.w=.ok () c'.w/\c'.Z=σ'/\Ext c c'/\SR E c':=by
 unfold storeAt at h
 split at h
 ·rename_i i b off hi
  have ht:=he.ty t i hi
  obtain⟨rfl,hb⟩:=ha.iN
  split at h
  ·rename_i u cs ex hob
   split at h
   ·rename_i hc
    injection h with h;subst h
    simp only[ah,fu,IT]at hc
    obtain⟨c',r1,r2,r3,r4⟩:=Ao (P:=P) hs hob hv.cells hc.1.2 (off:=off) (by omega)
    refine⟨c',?_,r2,r3,r4⟩
    have hsz:x.cells.size=i.size:=by have:=hv.cells.len;simp at this;omega
    simp[Instr.storeAt,Instr.sureAddr,storeVar,ht.size,hsz,r1]
   ·cases h
  ·cases h
 ·cases h
theorem Ay (hs:SR E c) {t:Nat}{i:Ty}(hi:E.ty t=some i) {cs:List V}{xs:Array Value}(hv:fM c cs xs.toList)(hok:cs.all V.aW=true) :
  ∃c',c'.w={ c.w with heap:=c.w.heap.push (.cells xs t (0,0)) }/\c'.Z=c.Z++[.cells t cs true]/\Ext c c'/\SR E c'/\c'.blk c.Z.length=c.w.heap.size/\c'.tot c.Z.length=xs.size/\c'.yL c.Z.length=i.size:=by
 refine⟨c.alloc (.cells xs t (0,0)) (.cells t cs true) xs.size i.size,rfl,rfl,Cx.gL hs _ _ _ _,Cx.rX hs _ _ _ _ ?_,by simp[Cx.alloc],by simp[Cx.alloc],by simp[Cx.alloc]⟩
 have hl:=hv.len
 refine vQ.zZ (arr:=xs) (xs:=xs.toList) (ys:=[]) ?_ (by simp[Cx.alloc]) ⟨i,hi,by simp[Cx.alloc]⟩ (λ_=>by simpa using hl) (by simp) (fM.mono (Cx.gL hs _ _ _ _) hv) hok
 show (c.w.heap.push _)[if c.Z.length=c.Z.length then _ else _]?=_
 simp
def iL (E:Env) (c:Cx) (r:Result Value) (v:V) (σ':Sg):Prop:=
 ∃(c':Cx) (x:Value),r=.ok x c'.w/\c'.Z=σ'/\Ext c c'/\SR E c'/\VR c' v x
theorem iL.same {r:Result Value}{v:V}{x:Value}(hs:SR E c)(hr:r=.ok x c.w)(hv:VR c v x):iL E c r v c.Z:=
 ⟨c,x,hr,rfl,Ext.refl c,hs,hv⟩
theorem I3 (he:cQ P E)(hs:SR E c) {t:Nat}{i:Ty}(hi:E.ty t=some i) :
  iL E c ((Instr.alloc t true (.tuple #[])).run P c.w) (.ref c.Z.length 0) (c.Z++[.cells t i.zero.cells true]):=by
 have ht:=he.ty t i hi
 obtain⟨z,hz,hr,_⟩:=ht.zero
 have hv:VR c i.zero z:=(hr _ _).vr
 obtain⟨c',h1,h2,h3,h4,h5,h6,h7⟩:=Ay hs hi (xs:=z.cells) hv.cells (hr c.w c.bF).lZ
 refine⟨c',.pointer (some ⟨c.w.heap.size,0,none⟩),?_,h2,h3,h4,?_⟩
 ·simp[Instr.alloc,hz,newVar,newRow,h1]
 ·rw[<- h5];exact .ref _ _ (by rw[h2];simp)
theorem NN (hs:SR E c) {t:Nat}{i:Ty}(hi:E.ty t=some i) {v:V}{x:Value}(hv:VR c v x)(hok:v.cells.all V.aW=true) :
  iL E c ((Instr.box t x).run P c.w) (.ref c.Z.length 0) (c.Z++[.cells t v.cells true]):=by
 obtain⟨c',h1,h2,h3,h4,h5,h6,h7⟩:=Ay hs hi (xs:=x.cells) hv.cells hok
 refine⟨c',.pointer (some ⟨c.w.heap.size,0,none⟩),?_,h2,h3,h4,?_⟩
 ·simp[Instr.box,newVar,newRow,h1]
 ·rw[<- h5];exact .ref _ _ (by rw[h2];simp)
theorem It:∀(xs:List Value) (k off:Nat) (cs:Array Value),off+k+xs.length<=cs.size ->
  ((xs.zipIdx k).foldl (λcs (p:Value × Nat)=>cs.setIfInBounds (off+p.2) p.1) cs).toList=cs.toList.take (off+k)++xs++cs.toList.drop (off+k+xs.length)
 | [],k,off,cs,h=>by simp
 |x::xs,k,off,cs,h=>by
  simp only[List.zipIdx_cons,lj]
  simp only[aa]at h
  rw[It xs (k+1) off (cs.setIfInBounds (off+k) x) (by simp;omega)]
  have e:=list_seg_step cs.toList (off+k) x xs (by simp;omega)
  simpa [Array.toList_setIfInBounds,qh]using e
inductive PR (c:Cx):List (Nat × V)->List (Nat × Value)->Prop
 |nil:PR c [] []
 |cons (n:Nat) (v:V) (x:Value) (ps:List (Nat × V)) (qs:List (Nat × Value))(hv:VR c v x)(hr:PR c ps qs):PR c ((n,v)::ps) ((n,x)::qs)
theorem tH (place:Nat->Option (Nat × Nat)):∀{ps:List (Nat × V)}{qs:List (Nat × Value)}{cells cells':List V}{arr:Array Value},PR c ps qs->fM c cells arr.toList->fill place cells ps=some cells' ->
  ∃arr',Instr.fill place arr qs=some arr'/\fM c cells' arr'.toList/\arr'.size=arr.size
 |_,_,cells,cells',arr,.nil,hv,h=>by
  simp only[fill]at h
  injection h with h;subst h
  exact⟨arr,rfl,hv,rfl⟩
 |_,_,cells,cells',arr,.cons n v x ps qs hvx hr,hv,h=>by
  simp only[fill]at h
  split at h
  ·cases h
  ·rename_i off size hp
   split at h
   ·cases h
   ·rename_i hc
    simp only[ez,IT,qg,Bool.not_eq_true,Bool.not_eq_false']at hc
    obtain⟨⟨g1,g2⟩,g3⟩:=hc
    have hlen:=hv.len
    have hcl:=hvx.cells.len
    simp only[ij]at hlen hcl
    have hfold:=It x.cells.toList 0 off arr (by simp;omega)
    have hstep:fM c (setCells cells off v.cells) (x.cells.zipIdx.foldl (λcs (p:Value × Nat)=>cs.setIfInBounds (off+p.2) p.1) arr).toList:=by
     have e:(x.cells.zipIdx.foldl (λcs (p:Value × Nat)=>cs.setIfInBounds (off+p.2) p.1) arr).toList=arr.toList.take off++x.cells.toList++arr.toList.drop (off+x.cells.toList.length):=by
      rw[<- Array.foldl_toList,Array.toList_zipIdx]
      simpa using hfold
     rw[e]
     unfold setCells
     have hd:=hv.drop (off+v.cells.length)
     rw[show off+x.cells.toList.length=off+v.cells.length by simp;omega]
     exact ((hv.take off).append hvx.cells).append hd
    obtain⟨arr',r1,r2,r3⟩:=tH place hr hstep h
    refine⟨arr',?_,r2,?_⟩
    ·simp only[Instr.fill,hp]
     rw[ay (by simp;omega)]
     exact r1
    ·rw[r3]
     have:=au List.length (show (x.cells.zipIdx.foldl (λcs (p:Value × Nat)=>cs.setIfInBounds (off+p.2) p.1) arr).toList=arr.toList.take off++x.cells.toList++arr.toList.drop (off+x.cells.toList.length) by
      rw[<- Array.foldl_toList,Array.toList_zipIdx]
      simpa using hfold)
     simp only[ij,an,bl,qd]at this
     omega
theorem oH {fr:Fr}{a:Act}(h:FR c fr a.tmps):∀{os:List (Nat × Operand)}{vs:List (Nat × V)},lI fr os=some vs->PR c vs (os.map λ(i,x)=>(i,a.eval x))
 | [],vs,he=>by simp[lI]at he;subst he;exact .nil
 |(i,o)::os,vs,he=>by
  simp only[lI]at he
  split at he
  ·rename_i v l h1 h2
   injection he with he;subst he
   exact .cons _ _ _ _ _ (aN h h1) (oH h h2)
  ·cases he
theorem Bf (he:cQ P E):∀(fs:List Field) (w:World),(∀f∈fs,(E.ty f.type).isSome=true) ->
  (fs.mapM λf=>(do pure (f.offset,<- sizeOf f.type):Sem (Nat × Nat))).run P w=.ok (fs.map λf=>(f.offset,((E.ty f.type).map Ty.size).getD 0)) w
 | [],w,_=>by simp
 |f::fs,w,h=>by
  obtain⟨i,hi⟩:=jc.1 (h f (by simp))
  have:=Bf he fs w (λg hg=>h g (by simp[hg]))
  simp only[List.mapM_cons,Sem.run_bind,(he.ty _ _ hi).size,Result.andThen_ok,Sem.run_pure,this]
  simp[hi]
theorem IL (he:cQ P E)(hs:SR E c) {t:Nat}{i:Ty}(hi:E.ty t=some i) {fs:List (Nat × Nat)}(hk:i.kd=.jR fs) {ps:List (Nat × V)}{qs:Array (Nat × Value)}(hp:PR c ps qs.toList)
  (hall:fs.all (λf=>(E.ty f.2).isSome)=true) {cs:List V}
  (h:fill (placeOf E fs) i.zero.cells ps=some cs) :
  iL E c ((Instr.build t qs).run P c.w) (.agg cs) c.Z:=by
 have ht:=he.ty t i hi
 obtain⟨z,hz,hr,_⟩:=ht.zero
 have hv:VR c i.zero z:=(hr _ _).vr
 obtain⟨d,hd,hkd⟩:=ht.kd
 rw[hk]at hkd
 obtain⟨a,rfl,hfs⟩:=hkd
 have hplaces:(a.mapM λf=>(do pure (f.offset,<- sizeOf f.type):Sem (Nat × Nat))).run P c.w=.ok (a.toList.map λf=>(f.offset,((E.ty f.type).map Ty.size).getD 0)).toArray c.w:=by
  rw[nt,Sem.run_map]
  rw[show (a.toList.mapM λf=>(do pure (f.offset,<- sizeOf f.type):Sem (Nat × Nat))).run P c.w=_ from Bf he a.toList c.w (λf hf=>by
   have:=dw.1 hall (f.offset,f.type) (by rw[<- hfs];exact cg.2 ⟨f,hf,rfl⟩)
   simpa using this)]
  rfl
 obtain⟨arr,r1,r2,r3⟩:=tH (c:=c) _ hp hv.cells h
 refine iL.same hs (x:=.agg arr) ?_ (by simpa using VR.agg cs arr.toList r2)
 have hplace:(λj=>(a.toList.map λf=>(f.offset,((E.ty f.type).map Ty.size).getD 0)).toArray[j]?)=placeOf E fs:=by
  funext j
  unfold placeOf
  rw[<- hfs]
  simp only[cr,kq]
  cases hj:a.toList[j]? with
  |none=>rfl
  |some f=>
   have:(E.ty f.type).isSome=true:=by
    have:=dw.1 hall (f.offset,f.type) (by rw[<- hfs];exact cg.2 ⟨f,af hj,rfl⟩)
    simpa using this
   obtain⟨y,hy⟩:=jc.1 this
   simp[hy]
 simp only[Instr.build,Sem.run_bind,hz,Result.andThen_ok,run_underlying hd,hplaces]
 rw[hplace,r1]
 rfl
end
end
section
theorem FI (k:IntKind) (n:Int)(h1:lo k<=n)(h2:n<=hi k):k.wrap n=n:=by
 cases k <;> simp only[lo,hi]at h1 h2 <;> simp[IntKind.wrap,IntKind.signed,IntKind.bits] <;> omega
theorem A2 (k:IntKind) (n:Int):wr k n=k.wrap n:=by
 rw[Cd]
 split
 ·rename_i h
  simp only[ah,IT]at h
  rw[FI k n h.1 h.2]
 ·rfl
theorem rU (s:ByteArray):(bytes s).length=s.size:=by simp[bytes]
theorem GK (a b:ByteArray):bytes (a++b)=bytes a++bytes b:=by simp[bytes]
theorem D9 {a b:List UInt8}(h:a.map UInt8.toNat=b.map UInt8.toNat):a=b:=by
 induction a generalizing b with
 |nil=>cases b <;> simp_all
 |cons x a ih=>cases b with
  |nil=>simp at h
  |cons y b=>simp only[bj,ov]at h;rw[UInt8.toNat_inj.1 h.1,ih h.2]
theorem bytes_inj {a b:ByteArray}(h:bytes a=bytes b):a=b:=by
 have:=D9 h
 cases a;cases b
 simp only[Array.toList_inj]at this
 simp[this]
theorem seq_eq (a b:List Nat):seq a b=decide (a=b):=by
 induction a generalizing b with
 |nil=>cases b <;> simp[seq]
 |cons x a ih=>cases b with
  |nil=>simp[seq]
  |cons y b=>simp[CF,ih]
theorem Ak (a b:ByteArray):seq (bytes a) (bytes b)=(a.toList==b.toList):=by
 rw[seq_eq,ByteArray.toList_eq,ByteArray.toList_eq]
 by_cases h:a=b
 ·subst h;simp
 ·have:¬ bytes a=bytes b:=λe=>h (bytes_inj e)
  have h2:¬ a.data=b.data:=λe=>h (by cases a;cases b;simp_all)
  simp[this,h2]
theorem EB (a b:List UInt8):slt (a.map UInt8.toNat) (b.map UInt8.toNat)=Op.bytesLess a b:=by
 induction a generalizing b with
 |nil=>cases b <;> rfl
 |cons x a ih=>cases b with
  |nil=>rfl
  |cons y b=>
   simp only[bj,yS,Op.bytesLess,ih]
   by_cases h:x=y
   ·subst h;simp
   ·have:¬ x.toNat=y.toNat:=λe=>h (UInt8.toNat_inj.1 e)
    simp[h,this,nq]
theorem Ve (a b:ByteArray):slt (bytes a) (bytes b)=Op.bytesLess a.toList b.toList:=by
 rw[ByteArray.toList_eq,ByteArray.toList_eq];exact EB _ _
section
variable {P:Program}{E:Env}{c:Cx}
theorem I0 {op:BinOp}{k:IntKind}{a b:Int}{t:Nat}{v:V}(h:arith op k a b=some v) (w:World) :
  ∃x,(binOp op t (.int k a) (.int k b)).run P w=.ok x w/\VR c v x:=by
 cases op with
 |add=>simp only[eU]at h;injection h with h;subst h;exact⟨_,by simp[binOp,Op.intArith,A2],.inl (.int _ _)⟩
 |sub=>simp only[eU]at h;injection h with h;subst h;exact⟨_,by simp[binOp,Op.intArith,A2],.inl (.int _ _)⟩
 |mul=>simp only[eU]at h;injection h with h;subst h;exact⟨_,by simp[binOp,Op.intArith,A2],.inl (.int _ _)⟩
 |quo=>
  simp only[eU]at h
  split at h
  ·cases h
  ·rename_i hb
   injection h with h;subst h
   exact⟨_,by simp[binOp,Op.intDiv,hb,A2],.inl (.int _ _)⟩
 |rem=>
  simp only[eU]at h
  split at h
  ·cases h
  ·rename_i hb
   injection h with h;subst h
   exact⟨_,by simp[binOp,Op.intDiv,hb],.inl (.int _ _)⟩
 |and=>simp only[eU]at h;injection h with h;subst h;exact⟨.int k _,by simp only[binOp,ne_eq,not_true,aq];rfl,.inl (.int _ _)⟩
 |or=>simp only[eU]at h;injection h with h;subst h;exact⟨.int k _,by simp only[binOp,ne_eq,not_true,aq];rfl,.inl (.int _ _)⟩
 |xor=>simp only[eU]at h;injection h with h;subst h;exact⟨.int k _,by simp only[binOp,ne_eq,not_true,aq];rfl,.inl (.int _ _)⟩
 |andNot=>simp only[eU]at h;injection h with h;subst h;exact⟨.int k _,by simp only[binOp,ne_eq,not_true,aq];rfl,.inl (.int _ _)⟩
 |eql=>simp only[eU]at h;injection h with h;subst h;exact⟨.bool (decide (a=b)),by simp only[binOp,ne_eq,not_true,aq,Op.intCmp];rfl,.inl (.bool _)⟩
 |neq=>simp only[eU]at h;injection h with h;subst h;exact⟨.bool (!decide (a=b)),by simp only[binOp,ne_eq,not_true,aq,Op.intCmp];rfl,.inl (.bool _)⟩
 |lss=>simp only[eU]at h;injection h with h;subst h;exact⟨.bool (decide (a<b)),by simp only[binOp,ne_eq,not_true,aq,Op.intCmp];rfl,.inl (.bool _)⟩
 |leq=>simp only[eU]at h;injection h with h;subst h;exact⟨.bool (decide (a<=b)),by simp only[binOp,ne_eq,not_true,aq,Op.intCmp];rfl,.inl (.bool _)⟩
 |gtr=>simp only[eU]at h;injection h with h;subst h;exact⟨.bool (decide (b<a)),by simp only[binOp,ne_eq,not_true,aq,Op.intCmp];rfl,.inl (.bool _)⟩
 |geq=>simp only[eU]at h;injection h with h;subst h;exact⟨.bool (decide (b<=a)),by simp only[binOp,ne_eq,not_true,aq,Op.intCmp];rfl,.inl (.bool _)⟩
 |shl=>simp only[eU]at h;cases h
 |shr=>simp only[eU]at h;cases h
theorem He {op:BinOp}{a b:ByteArray}{t:Nat}{v:V}(h:tU op (bytes a) (bytes b)=some v) (w:World) :
  ∃x,(binOp op t (.string a) (.string b)).run P w=.ok x w/\VR c v x:=by
 cases op <;> simp only[tU]at h <;> first
  |(cases h;done)
  |(injection h with h;subst h;refine⟨_,by simp only[binOp,Op.stringOp];rfl,?_⟩;simp only[Ak,Ve];exact .inl (.bool _))
  |skip
 split at h
 ·rename_i hle
  injection h with h;subst h
  simp only[IT,rU]at hle
  refine⟨.string (a++b),?_,by rw[<- GK];exact .inl (.str _)⟩
  simp only[binOp,Op.stringOp]
  rw[ay (by simp;omega)]
  rfl
 ·cases h
theorem A9 {op:BinOp}{k k':IntKind}{a b:Int}{t:Nat}{v:V}(ho:op=.shl\/op=.shr)(h:shift op k a b=some v) (w:World) :
  ∃x,(binOp op t (.int k a) (.int k' b)).run P w=.ok x w/\VR c v x:=by
 unfold shift at h
 split at h
 ·cases h
 ·rename_i hb
  rcases ho with rfl | rfl
  ·simp only at h;injection h with h;subst h
   exact⟨_,by simp[binOp,Op.shift,hb],.inl (.int _ _)⟩
  ·simp only at h;injection h with h;subst h
   exact⟨_,by simp[binOp,Op.shift,hb],.inl (.int _ _)⟩
theorem Kg:∀{sh:List Kd}{as bs:List V}{b:Bool}{xs ys:List Value},eqs sh as bs=some b->fM c as xs->fM c bs ys->Sc sh as xs/\Sc sh bs ys:=by
 intro sh as bs
 fun_induction eqs sh as bs with
 |case1=>intro b xs ys h ha hb;cases ha;cases hb;exact⟨.nil,.nil⟩
 |case2 sh x a y b' q hq ih=>
  intro b xs ys h ha hb
  cases ha with | cons _ x' _ xs hx hxs=>
  cases hb with | cons _ y' _ ys hy hys=>
  obtain⟨h1,h2⟩:=ih hq hxs hys
  rw[hx.gN,hy.gN]
  exact⟨.bool _ _ _ _ h1,.bool _ _ _ _ h2⟩
 |case4 k sh k1 x a k2 y b' hk q hq ih=>
  intro b xs ys h ha hb
  obtain⟨rfl,rfl⟩:=hk
  cases ha with | cons _ x' _ xs hx hxs=>
  cases hb with | cons _ y' _ ys hy hys=>
  obtain⟨h1,h2⟩:=ih hq hxs hys
  rw[hx.eI,hy.eI]
  exact⟨.int _ _ _ _ _ h1,.int _ _ _ _ _ h2⟩
 |case7 sh x a y b' q hq ih=>
  intro b xs ys h ha hb
  cases ha with | cons _ x' _ xs hx hxs=>
  cases hb with | cons _ y' _ ys hy hys=>
  obtain⟨h1,h2⟩:=ih hq hxs hys
  obtain⟨s,rfl,rfl⟩:=hx.eX
  obtain⟨s',rfl,rfl⟩:=hy.eX
  exact⟨.str _ _ _ _ h1,.str _ _ _ _ h2⟩
 |_=>intro b xs ys h;cases h
theorem cP {t:Nat}{d:TypeDesc} (_hd:P.underlying t=some d) (w:World) {x y:Value}{b:Bool}(h:∀n,(Op.equalIn (n+1) t x y).run P w=.ok b w):(Op.equal t x y).run P w=.ok b w:=h 9999
theorem Nv (he:cQ P E) {t:Nat}{xD:Bool}{v u:V}{x y:Value}{b:Bool}(h:kY E t xD v u=some b)(hv:VR c v x)(hu:VR c u y) {op:BinOp}{ox oy:Operand}
  (hc:xD=true->(∃z,ox=.const z)\/∃z,oy=.const z) :
  (eqGuard op t ox oy x y).run P c.w=.ok () c.w/\(Op.equal t x y).run P c.w=.ok b c.w:=by
 unfold kY at h
 split at h
 ·cases h
 ·rename_i i hi
  obtain⟨d,hd,hkd⟩:=(he.ty t i hi).kd
  have plain:∀{x y:Value},(∀m:Unit,True)->(∀n,(Op.equalIn (n+1) t x y).run P c.w=.ok b c.w)->(Op.equal t x y).run P c.w=.ok b c.w:=λ_ h=>h 9999
  split at h <;> rename_i hk <;> (try rw[hk]at hkd) <;> (try simp only[oN]at hkd) <;> (try subst hkd)
  ·
   injection h with h;subst h
   rw[hv.gN,hu.gN]
   exact⟨by cases op <;> rfl,cP hd _ λn=>by simp[Op.equalIn,run_underlying hd]⟩
  ·injection h with h;subst h
   rw[hv.pK,hu.pK]
   exact⟨by cases op <;> rfl,cP hd _ λn=>by simp[Op.equalIn,run_underlying hd]⟩
  ·injection h with h;subst h
   obtain⟨rfl,_⟩:=hu.iN
   rw[hv.pK]
   exact⟨by cases op <;> rfl,cP hd _ λn=>by simp[Op.equalIn,run_underlying hd]⟩
  ·injection h with h;subst h
   obtain⟨_,_,rfl,_⟩:=hu.zO
   rw[hv.pK]
   exact⟨by cases op <;> rfl,cP hd _ λn=>by simp[Op.equalIn,run_underlying hd]⟩
  ·injection h with h;subst h
   obtain⟨rfl,_⟩:=hv.iN
   rw[hu.pK]
   exact⟨by cases op <;> rfl,cP hd _ λn=>by simp[Op.equalIn,run_underlying hd]⟩
  ·injection h with h;subst h
   obtain⟨_,_,rfl,_⟩:=hv.zO
   rw[hu.pK]
   exact⟨by cases op <;> rfl,cP hd _ λn=>by simp[Op.equalIn,run_underlying hd]⟩
  ·
   rename_i e b1 o1 b2 o2
   split at h
   ·rename_i ei hei
    split at h
    ·rename_i hbb
     obtain⟨rfl,hz⟩:=hbb
     injection h with h;subst h
     obtain⟨rfl,_⟩:=hv.iN
     obtain⟨rfl,_⟩:=hu.iN
     refine⟨by cases op <;> rfl,cP hd _ λn=>?_⟩
     simp only[Op.equalIn,Sem.run_bind,run_underlying hd,Result.andThen_ok,(he.ty e ei hei).size,Sem.run_ite,ne_eq,hz,nu,b9,sameAddr,beq_self_eq_true]
     simp only[Sem.run_pure,Result.ok.injEq,cn]
     by_cases ho:o1=o2 <;> simp[ho]
    ·cases h
   ·cases h
  ·injection h with h;subst h
   rw[hv.hU,hu.hU]
   exact⟨by cases op <;> rfl,cP hd _ λn=>by simp[Op.equalIn,run_underlying hd]⟩
  ·injection h with h;subst h
   obtain⟨_,_,_,_,_,rfl,_⟩:=hu.nI
   rw[hv.hU]
   exact⟨by cases op <;> rfl,cP hd _ λn=>by simp[Op.equalIn,run_underlying hd]⟩
  ·injection h with h;subst h
   obtain⟨_,rfl,_⟩:=hu.mW
   rw[hv.hU]
   exact⟨by cases op <;> rfl,cP hd _ λn=>by simp[Op.equalIn,run_underlying hd]⟩
  ·injection h with h;subst h
   obtain⟨_,_,_,_,_,rfl,_⟩:=hv.nI
   rw[hu.hU]
   exact⟨by cases op <;> rfl,cP hd _ λn=>by simp[Op.equalIn,run_underlying hd]⟩
  ·injection h with h;subst h
   obtain⟨_,rfl,_⟩:=hv.mW
   rw[hu.hU]
   exact⟨by cases op <;> rfl,cP hd _ λn=>by simp[Op.equalIn,run_underlying hd]⟩
  ·injection h with h;subst h
   rw[hv.mC,hu.mC]
   exact⟨by cases op <;> rfl,cP hd _ λn=>by simp[Op.equalIn,run_underlying hd]⟩
  ·injection h with h;subst h
   obtain⟨_,_,_,_,rfl,_⟩:=hu.s_
   rw[hv.mC]
   exact⟨by cases op <;> rfl,cP hd _ λn=>by simp[Op.equalIn,run_underlying hd]⟩
  ·injection h with h;subst h
   obtain⟨rfl,_⟩:=hu.x_
   rw[hv.mC]
   exact⟨by cases op <;> rfl,cP hd _ λn=>by simp[Op.equalIn,run_underlying hd]⟩
  ·injection h with h;subst h
   obtain⟨_,_,_,_,rfl,_⟩:=hv.s_
   rw[hu.mC]
   exact⟨by cases op <;> rfl,cP hd _ λn=>by simp[Op.equalIn,run_underlying hd]⟩
  ·injection h with h;subst h
   obtain⟨rfl,_⟩:=hv.x_
   rw[hu.mC]
   exact⟨by cases op <;> rfl,cP hd _ λn=>by simp[Op.equalIn,run_underlying hd]⟩
  ·injection h with h;subst h
   obtain⟨_,_,_,rfl⟩:=hkd
   rw[hv.zH,hu.zH]
   exact⟨by cases op <;> rfl,cP hd _ λn=>by simp[Op.equalIn,run_underlying hd]⟩
  ·injection h with h;subst h
   obtain⟨_,_,_,rfl⟩:=hkd
   obtain⟨_,_,rfl,_⟩:=hu.Dq
   rw[hv.zH]
   exact⟨by cases op <;> rfl,cP hd _ λn=>by simp[Op.equalIn,run_underlying hd]⟩
  ·injection h with h;subst h
   obtain⟨_,_,_,rfl⟩:=hkd
   obtain⟨_,_,rfl,_⟩:=hv.Dq
   rw[hu.zH]
   exact⟨by cases op <;> rfl,cP hd _ λn=>by simp[Op.equalIn,run_underlying hd]⟩
  ·split at h
   ·rename_i hcs
    injection h with h;subst h
    obtain⟨_,rfl⟩:=hkd
    rw[hv.zG,hu.zG]
    refine⟨?_,cP hd _ λn=>by simp[Op.equalIn,run_underlying hd]⟩
    rcases hc hcs with⟨z,rfl⟩ | ⟨z,rfl⟩
    ·rw[eqGuard_nil_constL];rfl
    ·rw[eqGuard_nil_constR];rfl
   ·cases h
  ·injection h with h;subst h
   obtain⟨_,rfl⟩:=hkd
   obtain⟨_,rfl,_⟩:=hu.Gz
   rw[hv.zG]
   exact⟨by rw[eqGuard_nil_iface];rfl,cP hd _ λn=>by simp[Op.equalIn,run_underlying hd]⟩
  ·injection h with h;subst h
   obtain⟨_,rfl⟩:=hkd
   obtain⟨_,rfl,_⟩:=hv.Gz
   rw[hu.zG]
   exact⟨by rw[eqGuard_at_iface];rfl,cP hd _ λn=>by simp[Op.equalIn,run_underlying hd]⟩
  ·split at h
   ·rename_i sh hsh
    obtain⟨xs,rfl,hxs⟩:=hv.tO
    obtain⟨ys,rfl,hys⟩:=hu.tO
    obtain⟨s1,s2⟩:=Kg h hxs hys
    have ho:=he.eqs t sh hsh
    exact⟨ho.guard _ _ _ _ _ _ _ _ s1 s2,ho.eq _ _ _ _ _ _ h s1 s2⟩
   ·cases h
  ·cases h
def Au:Value->Bool
 | .int .. | .float .. | .complex .. | .string _=>false
 |_=>true
theorem Kt {t:Nat}{x y:Value}(h:Au x=true):binOp .eql t x y=(do pure (.bool (<- Op.equal t x y)):Sem Value):=by
 cases x <;> first | (cases h;done) | rfl
theorem Kr {t:Nat}{x y:Value}(h:Au x=true):binOp .neq t x y=(do pure (.bool (!(<- Op.equal t x y))):Sem Value):=by
 cases x <;> first | (cases h;done) | rfl
theorem VR.Au {v:V}{x:Value}(h:VR c v x)(h1:∀k n,v≠.int k n)(h2:∀s,v≠.str s):Ax.Au x=true:=by
 cases h with
 |inl h=>cases h <;> first | rfl | exact absurd rfl (h1 _ _) | exact absurd rfl (h2 _)
 |_=>rfl
theorem B9 {t:Nat}{xD:Bool}{v u:V}{b:Bool}(h:kY E t xD v u=some b):(∀k n,v≠.int k n)/\(∀s,v≠.str s):=by
 constructor
 ·intro k n e
  subst e
  unfold kY at h
  split at h
  ·cases h
  ·split at h <;> first | (cases h;done) | simp_all
 ·intro s e
  subst e
  unfold kY at h
  split at h
  ·cases h
  ·split at h <;> first | (cases h;done) | simp_all
theorem NP (he:cQ P E) {op:BinOp}{t:Nat}{ox oy:Operand}{v u r:V}{x y:Value}(h:bin E op t (isConst ox||isConst oy) v u=some r)(hv:VR c v x)(hu:VR c u y) :
  ∃z,(do eqGuard op t ox oy x y;binOp op t x y:Sem Value).run P c.w=.ok z c.w/\VR c r z:=by
 have hcst:(isConst ox||isConst oy)=true->(∃z,ox=.const z)\/∃z,oy=.const z:=by
  intro h
  simp only[ez]at h
  rcases h with h | h
  ·cases ox <;> first | (cases h;done) | exact .inl ⟨_,rfl⟩
  ·cases oy <;> first | (cases h;done) | exact .inr ⟨_,rfl⟩
 unfold bin at h
 split at h
 ·rename_i k a k' b
  rw[hv.eI,hu.eI]
  simp only[Sem.run_bind,eqGuard_at_int,Sem.run_pure,Result.andThen_ok]
  split at h
  ·exact A9 (.inl rfl) h c.w
  ·exact A9 (.inr rfl) h c.w
  ·split at h
   ·rename_i hk;subst hk
    exact I0 h c.w
   ·cases h
 ·rename_i a b
  obtain⟨s,rfl,rfl⟩:=hv.eX
  obtain⟨s',rfl,rfl⟩:=hu.eX
  simp only[Sem.run_bind,eqGuard_at_string,Sem.run_pure,Result.andThen_ok]
  exact He h c.w
 ·rename_i hni hns
  have key:∀b,kY E t (isConst ox||isConst oy) v u=some b->(eqGuard op t ox oy x y).run P c.w=.ok () c.w/\(Op.equal t x y).run P c.w=.ok b c.w:=λb hb=>Nv he hb hv hu hcst
  split at h
  ·cases hq:kY E t (isConst ox||isConst oy) v u with
   |none=>rw[hq]at h;cases h
   |some b=>
    rw[hq]at h;injection h with h;subst h
    obtain⟨g1,g2⟩:=key b hq
    refine⟨.bool b,?_,.inl (.bool _)⟩
    have hn:=hv.Au (B9 hq).1 (B9 hq).2
    simp only[Sem.run_bind,g1,Result.andThen_ok,Kt hn,g2,Sem.run_pure]
  ·cases hq:kY E t (isConst ox||isConst oy) v u with
   |none=>rw[hq]at h;cases h
   |some b=>
    rw[hq]at h;injection h with h;subst h
    obtain⟨g1,g2⟩:=key b hq
    refine⟨.bool (!b),?_,.inl (.bool _)⟩
    have hn:=hv.Au (B9 hq).1 (B9 hq).2
    simp only[Sem.run_bind,g1,Result.andThen_ok,Kr hn,g2,Sem.run_pure]
  ·cases h
end
end
section
theorem eN.flat {w:World}{I:Bool->Nat->Prop}{sz blk:Nat}:∀{xs:List (List V)}{off:Nat},eN w I sz xs blk off->dW w I xs.flatten blk off/\xs.flatten.length=xs.length*sz
 | [],off,_=>⟨.nil,by simp⟩
 |r::xs,off,h=>by
  cases h with | cons _ _ hl hc hr=>
  obtain⟨h1,h2⟩:=hr.flat
  refine⟨dW.qS λj v hj=>?_,by simp[h2,hl,j8,ki]⟩
  simp only[da]at hj
  by_cases hlt:j<r.length
  ·exact hc.get j v (by rwa [bq hlt]at hj)
  ·rw[ck (by omega)]at hj
   obtain⟨x,hx,hv⟩:=h1.get _ v hj
   exact⟨x,by rw[show off+j=off+sz+(j-r.length) by omega];exact hx,hv⟩
theorem eN.drop {w:World}{I:Bool->Nat->Prop}{sz blk:Nat}:∀{xs:List (List V)}{off:Nat},eN w I sz xs blk off->∀l,eN w I sz (xs.drop l) blk (off+l*sz)
 | [],off,_,l=>by simp;exact .nil
 |r::xs,off,h,0=>by simpa using h
 |r::xs,off,h,l+1=>by
  cases h with | cons _ _ hl hc hr=>
  have:=hr.drop l
  rw[show off+sz+l*sz=off+(l+1)*sz by rw[j8];omega]at this
  simpa using this
theorem eN.take {w:World}{I:Bool->Nat->Prop}{sz blk:Nat}:∀{xs:List (List V)}{off:Nat},eN w I sz xs blk off->∀l,eN w I sz (xs.take l) blk off
 | [],off,_,l=>by simp;exact .nil
 |r::xs,off,h,0=>by simp;exact .nil
 |r::xs,off,h,l+1=>by
  cases h with | cons _ _ hl hc hr=>exact .cons r _ hl hc (hr.take l)
theorem eN.get {w:World}{I:Bool->Nat->Prop}{sz blk:Nat}:∀{xs:List (List V)}{off:Nat},eN w I sz xs blk off->∀i r,xs[i]?=some r->r.length=sz/\dW w I r blk (off+i*sz)
 | [],off,_,i,r,hr=>by simp at hr
 |q::xs,off,h,0,r,hr=>by
  cases h with | cons _ _ hl hc hrr=>simp at hr;subst hr;exact⟨hl,by simpa using hc⟩
 |q::xs,off,h,i+1,r,hr=>by
  cases h with | cons _ _ hl hc hrr=>
  obtain⟨h1,h2⟩:=hrr.get i r (by simpa using hr)
  exact⟨h1,by rw[show off+(i+1)*sz=off+sz+i*sz by rw[j8];omega];exact h2⟩
theorem eN.BB {w:World}{I:Bool->Nat->Prop}{sz size blk off:Nat}{xs:List (List V)}(h:eN w I sz xs blk off)(hk:BB size xs=true):xs=[]\/sz=size:=by
 cases h with
 |nil=>exact .inl rfl
 |cons r xs hl hc hr=>exact .inr (by simp only[Ax.BB,fu]at hk;omega)
theorem eN.resize {w:World}{I:Bool->Nat->Prop}{sz size blk off:Nat}{xs:List (List V)}(h:eN w I sz xs blk off)(hk:Ax.BB size xs=true):eN w I size xs blk off:=by
 rcases h.BB hk with rfl | rfl
 ·exact .nil
 ·exact h
section
variable {P:Program}{E:Env}{c:Cx}
theorem UC (s:List UInt8):fM c (u8s (s.map UInt8.toNat)) (s.map λb=>.int .u8 b.toNat):=by
 induction s with
 |nil=>exact .nil
 |cons a s ih=>exact .cons _ _ _ _ (.inl (.int _ _)) ih
theorem qL (hs:SR E c) {size:Nat}{v:V}{x:Value}{cs:List V}{n:Nat}(h:elems c.Z size v=some (cs,n))(hv:VR c v x) :
  ∃xs:List Value,fM c cs xs/\xs.length=n*size/\(∀w',(∀k,k<c.w.heap.size->w'.heap[k]?=c.w.heap[k]?)->(Builtin.firstCells size n x).run P w'=.ok xs.toArray w')/\(∀w',(Builtin.lenOf x).run P w'=.ok n w')/\cs.all V.aW=true:=by
 cases v <;> simp only[elems]at h <;> first | (cases h;done) | skip
 case str s=>
  split at h
  ·rename_i hsz
   subst hsz
   injection h with h;injection h with h1 h2;subst h1 h2
   obtain⟨b,rfl,rfl⟩:=hv.eX
   refine⟨b.data.toList.map λb=>.int .u8 b.toNat,UC _,by simp[bytes],λw' _=>?_,λw'=>by simp[Builtin.lenOf,bytes],by simp[u8s,List.all_map,Function.comp_def,V.aW]⟩
   have e:b.extract 0 (bytes b).length=b:=by rw[rU];exact ByteArray.extract_zero_size
   simp only[Builtin.firstCells,e,Sem.run_pure]
   congr 1
   apply pq
   simp
  ·cases h
 case aB=>
  injection h with h;injection h with h1 h2;subst h1 h2
  rw[hv.hU]
  exact⟨[],.nil,by simp,λw' _=>rfl,λw'=>rfl,rfl⟩
 case bT g xs full=>
  split at h
  ·rename_i hk
   injection h with h;injection h with h1 h2;subst h1 h2
   obtain⟨blk,off,sp,cap,sz,rfl,hi,hc,hf,hr⟩:=hv.nI
   rcases hi with⟨rfl,hi⟩ | ⟨rfl,rfl⟩
   case inr=>exact⟨[],.nil,by simp,(λw' _=>by unfold Builtin.firstCells;simp only[bf,fl];exact run_loadCells_list w' _ [] λj v hj=>by cases hj),λw'=>rfl,rfl⟩
   obtain⟨hcells,hlen⟩:=(hr.resize hk).flat
   obtain⟨ys,hys,hcell⟩:=hcells.vals
   have hV:fM c xs.flatten ys:=(hys.mono (vT c g)).vrs
   have hl:=hV.len
   refine⟨ys,hV,by omega,λw' hw=>?_,λw'=>rfl,hys.lZ⟩
   simp only[Builtin.firstCells]
   exact jT (by omega) λj y hj=>by
    rw[cell_of_heap (hw blk hi.1)];exact hcell j y hj
  ·cases h
 case sl b off len cap=>
  split at h
  ·rename_i t cs' ex hob
   split at h
   ·rename_i hle
    injection h with h;injection h with h1 h2;subst h1 h2
    obtain⟨cap',rfl,hb,hl,_⟩:=hv.mW
    obtain⟨arr,g1,g2,g3,g4,g5,g6,g7⟩:=(hs.obj b _ hob).jL
    have hV:=(g6.drop off).take (len*size)
    have e:((arr.toList.take cs'.length).drop off).take (len*size)=(arr.toList.drop off).take (len*size):=by
     rw[List.drop_take,qa,mw (by omega)]
    rw[e]at hV
    refine⟨_,hV,by simp;omega,λw' hw=>?_,λw'=>rfl,by
     simp only[dw]at g7 ⊢
     exact λx hx=>g7 x (List.mem_of_mem_drop (ji hx))⟩
    simp only[Builtin.firstCells]
    refine jT (by simp;omega) λj y hj=>?_
    rw[cell_of_heap (hw _ (jV g1)),nK g1]
    have hj':j<len*size:=by have:=(AS.1 hj).1;simp at this;omega
    simpa [gw,hj',me]using hj
   ·cases h
  ·cases h
theorem Ph (n:Nat) (z:List V):(fG n z).length=n*z.length:=by
 induction n with
 |zero=>simp[fG]
 |succ n ih=>simp[fG,ih,j8,ki]
def rF (n:Nat) (z:List Value):List Value:=match n with
 |0=>[]
 |n+1=>z++rF n z
theorem yY {z:List V}{zs:List Value}(h:fM c z zs) (n:Nat):fM c (fG n z) (rF n zs):=by
 induction n with
 |zero=>exact .nil
 |succ n ih=>exact h.append ih
theorem MU (n:Nat) (z:List Value) (d:Value):(List.range (n*z.length)).map (λi=>z[i % z.length]?.getD d)=rF n z:=by
 induction n with
 |zero=>simp[rF]
 |succ n ih=>
  rw[j8,ki,List.range_add,gp,ku,rF]
  congr 1
  ·apply jn
   intro i
   by_cases hi:i<z.length
   ·simp[hi,Nat.mod_eq_of_lt hi]
   ·simp[hi]
  ·rw[<- ih]
   apply jd
   intro i _
   simp[Function.comp]
theorem oD (z:Array Value) (n:Nat):(Builtin.zeroCells z n).toList=rF n z.toList:=by
 have:=MU n z.toList default
 simp only[Builtin.zeroCells,Array.toList_map,Array.toList_range]
 rw[<- this]
 simp only[ij]
 apply jd
 intro i hi
 simp[getElem!_def,Array.getElem?_toList,Option.getD]
 cases z[i % z.size]? <;> rfl
theorem xR {need bytes:Nat}(h:roomy need bytes=true) {old:Nat}(ho:old<need):Builtin.nextslicecap need old*bytes<=2 ^ 48/\need<=281474976710656:=by
 simp only[roomy,IT]at h
 have hn:Builtin.nextslicecap need old<=2*need+256:=by
  have grow:∀r c,c<=2*need+256->Builtin.growBy need r c<=2*need+256:=by
   intro r
   induction r with
   |zero=>intro c h;exact h
   |succ r ih=>
    intro c h
    unfold Builtin.growBy
    split
    ·exact h
    ·exact ih _ (by omega)
  unfold Builtin.nextslicecap
  split
  ·omega
  ·split
   ·omega
   ·exact grow 4 old (by omega)
 have h1:Builtin.nextslicecap need old*bytes<=(2*need+256)*(bytes+1):=Nat.mul_le_mul hn (by omega)
 have h2:need*1<=(2*need+256)*(bytes+1):=Nat.mul_le_mul (by omega) (by omega)
 exact⟨gh h1 (gh h (by decide)),gh (by rw[nf]at h2;exact h2) h⟩
theorem HB {need bytes:Nat}(h:lF need bytes=true)(ho:0<need):Builtin.nextslicecap need 0*bytes<=2 ^ 48/\need<=281474976710656:=by
 simp only[lF,IT]at h
 have hn:Builtin.nextslicecap need 0=need:=by
  unfold Builtin.nextslicecap
  rw[b8 (by omega)]
 have h1:need*bytes<=need*(bytes+1):=Nat.mul_le_mul (ae _) (by omega)
 have h2:need*1<=need*(bytes+1):=Nat.mul_le_mul (ae _) (by omega)
 rw[hn]
 exact⟨gh h1 (gh h (by decide)),gh (by rw[nf]at h2;exact h2) h⟩
theorem Ls (hs:SR E c) {t:Nat}{i:Ty}(hi:E.ty t=some i) {cs:List V}{xs ys:List Value}(hv:fM c cs xs)(hok:cs.all V.aW=true) :
  ∃c',c'.w={ c.w with heap:=c.w.heap.push (.cells (xs++ys).toArray t (0,0)) }/\c'.Z=c.Z++[.cells t cs false]/\Ext c c'/\SR E c'/\c'.blk c.Z.length=c.w.heap.size/\c'.tot c.Z.length=xs.length+ys.length/\c'.yL c.Z.length=i.size:=by
 refine⟨c.alloc (.cells (xs++ys).toArray t (0,0)) (.cells t cs false) (xs.length+ys.length) i.size,rfl,rfl,Cx.gL hs _ _ _ _,Cx.rX hs _ _ _ _ ?_,by simp[Cx.alloc],by simp[Cx.alloc],by simp[Cx.alloc]⟩
 refine vQ.zZ (arr:=(xs++ys).toArray) (xs:=xs) (ys:=ys) ?_ (by simp[Cx.alloc]) ⟨i,hi,by simp[Cx.alloc]⟩ (λh=>by cases h) (by simp) (fM.mono (Cx.gL hs _ _ _ _) hv) hok
 show (c.w.heap.push _)[if c.Z.length=c.Z.length then _ else _]?=_
 simp
theorem PB {k:Kd}(hne:∀i,k≠.int i) {d:TypeDesc}(h:oN d k) (j:IntKind):d≠.int j:=by
 rintro rfl
 cases k <;> simp only[oN]at h <;> first
  |(exact absurd rfl (hne _))
  |(cases h;done)
  |(obtain⟨_,_,_,h⟩:=h;cases h;done)
  |(obtain⟨_,h,_⟩:=h;cases h;done)
  |(obtain⟨_,h⟩:=h;cases h;done)
theorem lX {st e : Nat} {i : Ty} (he : cQ P E) {si : Ty} (hsi : E.ty st = some si) (hk : si.kd = .sl e) (hi : E.ty e = some i) (ats : Array Nat) (ty : Nat) (hat : ats[0]? = some st)
    (hz : ∀ xt, ats[1]? = some xt -> ∃ xi, E.ty xt = some xi /\ (∀ k, xi.kd ≠ .int k)) {x y : Value} {base : Option Addr} {len cap n : Nat}
    {olds news : List Value} (hy : y = .slice base len cap)
    (hn : ∀ w', (Builtin.lenOf x).run P w' = .ok n w') (hcap : cap < len + n) (hr : Builtin.nextslicecap (len + n) cap * i.bytes <= 2 ^ 48 /\ len + n <= 281474976710656) (w : World)
    (hold : ∀ w', (∀ k, k < w.heap.size -> w'.heap[k]? = w.heap[k]?) -> (Builtin.firstCells i.size len y).run P w' = .ok olds.toArray w')
    (hnew : ∀ w', (∀ k, k < w.heap.size -> w'.heap[k]? = w.heap[k]?) -> (Builtin.firstCells i.size n x).run P w' = .ok news.toArray w') :
    ∃ (nc : Nat) (rest : List Value), len + n <= nc /\ rest.length = (nc - (len + n)) * i.size /\
      (Builtin.append_ ats ty #[y, x]).run P w = .ok (.slice (some ⟨w.heap.size, 0, none⟩) (len + n) nc)
        { w with heap := w.heap.push (.cells ((olds ++ news) ++ rest).toArray e (0, 0)), drawn := w.drawn + 1 } := by
  have ht := he.ty e i hi
  obtain ⟨d, hd, hkd⟩ := (he.ty st si hsi).kd
  rw [hk] at hkd
  simp only [oN] at hkd
  subst hkd
  obtain ⟨z, hz0, hz1, hzs⟩ := ht.zero
  obtain ⟨inf, hinf, hsz, hby, _⟩ := ht.info
  obtain ⟨h1, h2⟩ := hr
  subst hy
  refine ⟨(Question.appendCap (len + n) cap e).cut (w.tape w.drawn (.appendCap (len + n) cap e)), rF ((Question.appendCap (len + n) cap e).cut (w.tape w.drawn (.appendCap (len + n) cap e)) - (len + n)) z.cells.toList, ?_, ?_, ?_⟩
  · simp [Question.cut]
  · have : ∀ m, (rF m z.cells.toList).length = m * i.size := by
      intro m
      induction m with
      | zero => simp [rF]
      | succ m ih => simp [rF, ih, hzs, j8, ki]
    exact this _
  · have hnc : ¬ (len + n <= cap) := by omega
    have hmx : ¬ ((((len + n : Nat) : Int) > IntKind.i64.max) /\ (False \/ inf.bytes = 0)) := by
      rw [IntKind.max_i64]; omega
    have hbig : ¬ (Builtin.nextslicecap (len + n) cap * inf.bytes > 2 ^ 48) := by rw [hby]; omega
    have hfo : (Question.appendCap (len + n) cap e).forced = false := rfl
    unfold Builtin.append_
    have e0 : (#[Value.slice base len cap, x] : Array Value)[0]? = some (.slice base len cap) := rfl
    have e1 : (#[Value.slice base len cap, x] : Array Value)[1]? = some x := rfl
    rw [hat, e0, e1]
    cases hx : ats[1]? with
    | none =>
      simp only [Sem.run_bind, run_underlying hd, Result.andThen_ok, ht.size, ai, aq, hn w, Sem.run_ite, hnc, mh, b9, run_typeInfo hinf, hmx, hbig, run_choose, run_askRoom, Sem.run_pure, hfo]
      simp only [hold { w with drawn := w.drawn + 1 } (fun _ _ => rfl), hnew { w with drawn := w.drawn + 1 } (fun _ _ => rfl), hz0, newRow, Sem.run_bind, run_newObj, Sem.run_pure, Result.andThen_ok]
      congr 4
      apply pq
      simp [oD]
    | some xt =>
      obtain ⟨xi, hxi, hne⟩ := hz xt hx
      obtain ⟨d, hd', hkd'⟩ := (he.ty xt xi hxi).kd
      have hm := PB hne hkd'
      cases d <;> first
        | exact absurd rfl (hm _)
        | (simp only [Sem.run_bind, run_underlying hd, run_underlying hd', Result.andThen_ok, ht.size, ai, aq, hn w, Sem.run_ite, hnc, mh, b9, run_typeInfo hinf, hmx, hbig, run_choose, run_askRoom, Sem.run_pure, hfo]
           simp only [hold { w with drawn := w.drawn + 1 } (fun _ _ => rfl), hnew { w with drawn := w.drawn + 1 } (fun _ _ => rfl), hz0, newRow, Sem.run_bind, run_newObj, Sem.run_pure, Result.andThen_ok]
           congr 4
           apply pq
           simp [oD])
theorem nE {st e : Nat} {i : Ty} (he : cQ P E) {si : Ty} (hsi : E.ty st = some si) (hk : si.kd = .sl e) (hi : E.ty e = some i) (ats : Array Nat) (ty : Nat) (hat : ats[0]? = some st)
    (hz : ∀ xt, ats[1]? = some xt -> ∃ xi, E.ty xt = some xi /\ (∀ k, xi.kd ≠ .int k)) {x : Value} {base : Option Addr} {len cap n : Nat} {news : List Value}
    (hn : ∀ w', (Builtin.lenOf x).run P w' = .ok n w') (hcap : len + n <= cap) (w : World)
    (hnew : (Builtin.firstCells i.size n x).run P w = .ok news.toArray w) :
    (Builtin.append_ ats ty #[.slice base len cap, x]).run P w =
      (match base with
       | some a => ((storeCells (a.add (len * i.size)) news 0).run P w).andThen fun _ w => .ok (.slice base (len + n) cap) w
       | none => .ok (.slice base (len + n) cap) w) := by
  have ht := he.ty e i hi
  obtain ⟨d, hd, hkd⟩ := (he.ty st si hsi).kd
  rw [hk] at hkd
  simp only [oN] at hkd
  subst hkd
  unfold Builtin.append_
  have e0 : (#[Value.slice base len cap, x] : Array Value)[0]? = some (.slice base len cap) := rfl
  have e1 : (#[Value.slice base len cap, x] : Array Value)[1]? = some x := rfl
  rw [hat, e0, e1]
  cases hx : ats[1]? with
  | none =>
    simp only [Sem.run_bind, run_underlying hd, Result.andThen_ok, ht.size, ai, aq, hn w, Sem.run_ite, hcap, mh, b9, Sem.run_pure, hnew]
    cases base <;> simp
  | some xt =>
    obtain ⟨xi, hxi, hne⟩ := hz xt hx
    obtain ⟨d, hd', hkd'⟩ := (he.ty xt xi hxi).kd
    have hm := PB hne hkd'
    cases d <;> first
      | exact absurd rfl (hm _)
      | (simp only [Sem.run_bind, run_underlying hd, run_underlying hd', Result.andThen_ok, ht.size, ai, aq, hn w, Sem.run_ite, hcap, mh, b9, Sem.run_pure, hnew]
         cases base <;> simp)
theorem fM.pT {vs:List V}{xs:List Value}(h:fM c vs xs):xs.length=vs.length:=h.len.symm
theorem oF (hs:SR E c) {t:Nat}{i:Ty}(hi:E.ty t=some i) {cs:List V}{xs ys:List Value}(hv:fM c cs xs)(hok:cs.all V.aW=true) {len nc:Nat}(hl:xs.length=len*i.size)(hy:ys.length=(nc-len)*i.size)(hle:len<=nc) :
  ∃c',c'.w={ c.w with heap:=c.w.heap.push (.cells (xs++ys).toArray t (0,0)),drawn:=c.w.drawn+1 }/\c'.Z=c.Z++[.cells t cs false]/\Ext c c'/\SR E c' /\
   VR c' (.sl c.Z.length 0 len none) (.slice (some ⟨c.w.heap.size,0,none⟩) len nc):=by
 obtain⟨c',h1,h2,h3,h4,h5,h6,h7⟩:=Ls (Cx.wN hs) hi (ys:=ys) (fM.mono c.kG hv) hok
 refine⟨c',h1,h2,c.kG.trans h3,h4,?_⟩
 have h5':c'.blk c.Z.length=c.w.heap.size:=h5
 rw[<- h5']
 refine .sl _ _ _ _ _ (by rw[h2];simp[Cx.drew]) hle (λk hk=>by cases hk) (λ_=>?_)
 have h6':c'.tot c.Z.length=xs.length+ys.length:=h6
 have h7':c'.yL c.Z.length=i.size:=h7
 rw[h6',h7',hl,hy,<- ot,Nat.add_sub_cancel' hle,cz]
end
end
section
section
variable {P:Program}{E:Env}{c:Cx}
theorem Se {cs:List V}{a b:Nat}(h:cs.all V.aW=true):((cs.drop a).take b).all V.aW=true:=by
 simp only[dw]at h ⊢
 exact λx hx=>h x (List.mem_of_mem_drop (ji hx))
theorem wC {a b:List V}(h:a.all V.aW=true) (k:b.all V.aW=true):(a++b).all V.aW=true:=by simp_all
theorem GO (he:cQ P E)(hs:SR E c) {ats:Array Nat}{ty:Nat}{sv xv v:V}{s x:Value}{σ':Sg}(h:append E c.Z ats sv xv=some (v,σ'))(hsv:VR c sv s)(hxv:VR c xv x) :
  iL E c ((Builtin.append_ ats ty #[s,x]).run P c.w) v σ':=by
 unfold append at h
 split at h
 ·cases h
 rename_i st hat
 split at h
 case h_2=>cases h
 rename_i e _ _ _ hsi
 split at h
 ·cases h
 rename_i i hi
 split at h
 ·cases h
 rename_i hpl
 split at h
 ·cases h
 rename_i new n hel
 simp only[ez,qg,Bool.not_eq_true,Bool.not_eq_false',beq_eq_false_iff_ne]at hpl
 have hz:∀xt,ats[1]?=some xt->∃xi,E.ty xt=some xi/\(∀k,xi.kd≠.int k):=by
  intro xt hx
  have:=hpl.1
  simp only[eY,hx]at this
  split at this
  ·rename_i xi hxi
   refine⟨xi,hxi,λk hk=>?_⟩
   rw[hk]at this;cases this
  ·cases this
 obtain⟨news,hnV,hnl,hfc,hlo,hok⟩:=qL (P:=P) hs hel hxv
 split at h
 ·
  rw[hsv.hU]
  split at h
  ·rename_i hn0
   subst hn0
   injection h with h;injection h with h1 h2;subst h1 h2
   refine iL.same hs (x:=.slice none 0 0) ?_ (.inl .aB)
   rw[nE he hsi rfl hi ats ty hat hz hlo (ae _) c.w (hfc c.w λ_ _=>rfl)]
  ·rename_i hn0
   split at h
   ·rename_i hrm
    injection h with h;injection h with h1 h2;subst h1 h2
    obtain⟨nc,rest,g1,g2,g3⟩:=lX he hsi rfl hi ats ty hat hz (y:=.slice none 0 0) rfl hlo (by omega) (by simpa using HB hrm (Nat.pos_of_ne_zero hn0)) c.w (olds:=[]) (λ_ _=>rfl) hfc
    simp only[cz,cq]at g1 g2 g3
    obtain⟨c',q1,q2,q3,q4,q5⟩:=oF hs hi hnV hok hnl g2 g1
    exact⟨c',_,by rw[g3,q1],q2,q3,q4,q5⟩
   ·cases h
 ·
  rename_i g xs full
  obtain⟨blk,off,sp,cap,sz,rfl,hi',hc,hf,hr⟩:=hsv.nI
  split at h
  ·rename_i hn0
   subst hn0
   injection h with h;injection h with h1 h2;subst h1 h2
   have hnil:news=[]:=by cases news <;> simp_all
   subst hnil
   refine iL.same hs (x:=.slice (some ⟨blk,off,sp⟩) xs.length cap) ?_ hsv
   rw[nE he hsi rfl hi ats ty hat hz hlo (by omega) c.w (hfc c.w λ_ _=>rfl)]
   simp[storeCells]
  ·rename_i hn0
   split at h
   ·rename_i hcd
    simp only[ah]at hcd
    injection h with h;injection h with h1 h2;subst h1 h2
    have hcap:=hf hcd.1.1
    have hel2:elems c.Z i.size (.bT g xs full)=some (xs.flatten,xs.length):=by simp[elems,hcd.1.2]
    obtain⟨olds,hoV,hol,hofc,_,hook⟩:=qL (P:=P) hs hel2 hsv
    obtain⟨nc,rest,g1,g2,g3⟩:=lX he hsi rfl hi ats ty hat hz rfl hlo (by omega) (xR hcd.2 (by omega)) c.w hofc hfc
    obtain⟨c',q1,q2,q3,q4,q5⟩:=oF hs hi (hoV.append hnV) (wC hook hok) (by simp[hol,hnl,ot]) g2 g1
    exact⟨c',_,by rw[g3,q1],q2,q3,q4,q5⟩
   ·cases h
 ·
  rename_i b off len cap
  obtain⟨cap',rfl,hb,hl,hk1,hk2⟩:=hsv.mW
  split at h
  case h_2=>cases h
  rename_i t cs ex hob
  split at h
  ·cases h
  rename_i hform
  simp only[fm,pn,ah,fu,IT]at hform
  obtain⟨⟨rfl,hle⟩,hrm⟩:=hform
  obtain⟨arr,a1,a2,⟨i',a3,a3'⟩,a4,a5,a6,a7⟩:=(hs.obj b _ hob).jL
  have hii:i'=i:=by rw[hi]at a3;exact (cv a3).symm
  subst hii
  have hlv:live c.Z b:=⟨_,hob,rfl⟩
  have hsz:0<i'.size:=Nat.pos_of_ne_zero hpl.2
  have hel2:elems c.Z i'.size (.sl b off len cap)=some ((cs.drop off).take (len*i'.size),len):=by simp[elems,hob,hle]
  obtain⟨olds,hoV,hol,hofc,_,hook⟩:=qL (P:=P) hs hel2 hsv
  have inplace:len+n<=cap'->off+(len+n)*i'.size<=cs.length ->
    iL E c ((Builtin.append_ ats ty #[.slice (some ⟨c.blk b,off,none⟩) len cap',x]).run P c.w) (.sl b off (len+n) cap) (c.Z.set b (.cells t (setCells cs (off+len*i'.size) new) ex)):=by
   intro h1 h2
   obtain⟨c',p1,p2,p3,p4⟩:=Ao (P:=P) hs hob (off:=off+len*i'.size) hnV hok (by have:=hnV.len;rw[ot]at h2;omega)
   refine⟨c',.slice (some ⟨c.blk b,off,none⟩) (len+n) cap',?_,p2,p3,p4,?_⟩
   ·rw[nE he hsi rfl hi ats ty hat hz hlo h1 c.w (hfc c.w λ_ _=>rfl)]
    simp only[Addr.add_lit,p1,Result.andThen_ok]
   ·rw[<- p3.blk b hb]
    exact .sl _ _ _ _ _ (gv hb p3.len) h1 hk1 (λe=>by rw[p3.yL b hb,p3.tot b hb];exact hk2 e)
  have realloc:cap'<len+n ->
    iL E c ((Builtin.append_ ats ty #[.slice (some ⟨c.blk b,off,none⟩) len cap',x]).run P c.w) (.sl c.Z.length 0 (len+n) none) (c.Z++[.cells t ((cs.drop off).take (len*i'.size)++new) false]):=by
   intro h1
   obtain⟨nc,rest,g1,g2,g3⟩:=lX he hsi rfl hi ats ty hat hz rfl hlo h1 (xR hrm h1) c.w hofc hfc
   obtain⟨c',q1,q2,q3,q4,q5⟩:=oF hs hi (hoV.append hnV) (wC hook hok) (by simp[hol,hnl,ot]) g2 g1
   exact⟨c',_,by rw[g3,q1],q2,q3,q4,q5⟩
  split at h
  ·rename_i k
   have hck:=hk1 k rfl
   split at h
   ·rename_i hlek
    split at h
    ·rename_i hfit
     injection h with h;injection h with h1 h2;subst h1 h2
     exact inplace (by omega) (by simpa using hfit)
    ·cases h
   ·rename_i hlek
    injection h with h;injection h with h1 h2;subst h1 h2
    exact realloc (by omega)
  ·have htot:=hk2 rfl
   rw[a3']at htot
   split at h
   ·rename_i hfit
    injection h with h;injection h with h1 h2;subst h1 h2
    have hfit':off+(len+n)*i'.size<=cs.length:=by simpa using hfit
    refine inplace ?_ hfit'
    have:(len+n)*i'.size<=cap'*i'.size:=by omega
    exact Nat.le_of_mul_le_mul_right this hsz
   ·rename_i hfit
    have hfit':¬ off+(len+n)*i'.size<=cs.length:=by simpa using hfit
    split at h
    ·rename_i hex
     injection h with h;injection h with h1 h2;subst h1 h2
     refine realloc ?_
     have:=a5 hex
     apply Nat.lt_of_not_le
     intro hge
     have:(len+n)*i'.size<=cap'*i'.size:=gr _ hge
     omega
    ·split at h
     ·rename_i hoff
      subst hoff
      injection h with h;injection h with h1 h2;subst h1 h2
      by_cases hin:len+n<=cap'
      ·
       obtain⟨vals,hvals⟩:∃vals:List Value,vals=arr.toList.take (len*i'.size)++news++arr.toList.drop (len*i'.size+news.length):=⟨_,rfl⟩
       have hnv:=hnV.len
       have hroom:len*i'.size+news.length<=arr.size:=by
        have:(len+n)*i'.size<=cap'*i'.size:=gr _ hin
        rw[ot]at this
        omega
       have hrun:=run_storeCells_at (P:=P) (c.blk b) 0 t news (len*i'.size) arr c.w a1 (by omega) (hnV.lZ hok)
       rw[Aj a1]at hrun
       simp only[cz]at hrun
       rw[<- hvals]at hrun
       have hvl:vals.toArray.size=arr.size:=by rw[hvals];simp;omega
       let c1:Cx:=c.put b (.cells vals.toArray t (0,0)) .dead
       have e1:Ext c c1:=Cx.nG hlv _ _
       have s1:SR E c1:=Cx.xT hs hlv _ _ trivial
       let c2:Cx:={ c1 with Z:=c1.Z++[.cells t (cs.take (len*i'.size)++new) false],blk:=λx=>if x=c.Z.length then c.blk b else c.blk x,tot:=λx=>if x=c.Z.length then c.tot b else c.tot x,yL:=λx=>if x=c.Z.length then c.yL b else c.yL x }
       have hln:c1.Z.length=c.Z.length:=by simp[c1,Cx.put]
       have liv:∀b',live c2.Z b'->(live c.Z b'/\b'≠b/\b'<c.Z.length)\/b'=c.Z.length:=by
        intro b' hb'
        rcases h_ hb' with hb' | ⟨hb',_⟩
        ·have:=gK hb'
         exact .inl ⟨this.1,this.2,eA this.1⟩
        ·exact .inr (by rw[hb',hln])
       have e2:Ext c c2:=by
        refine⟨e1.size,λk hk ho=>⟨(e1.keep k hk ho).1,?_⟩,by simp[c2,c1,Cx.put],λb' hb'=>by simp[c2,e8 hb'],λb' hb'=>by simp[c2,e8 hb'],λb' hb'=>by simp[c2,e8 hb'],rfl,rfl,rfl,rfl⟩
        rintro⟨b',hl',hbk⟩
        rcases liv b' hl' with⟨g1,_,g3⟩ | rfl
        ·exact ho ⟨b',g1,by simpa [c2,e8 g3]using hbk⟩
        ·exact ho ⟨b,hlv,by simpa [c2]using hbk⟩
       have hV2:fM c2 (cs.take (len*i'.size)++new) (arr.toList.take (len*i'.size)++news):=by
        have:=(a6.take (len*i'.size)).append hnV
        rw[qa,mw (by omega)]at this
        exact fM.mono e2 this
       have hheap:c2.w.heap[c.blk b]?=some (.cells vals.toArray t (0,0)):=by
        have:=jV a1
        simp[c2,c1,Cx.put,this]
       have s2:SR E c2:=by
        refine⟨λb1 b2 h1 h2 e=>?_,λb' o' hb'=>?_,λb' hl'=>?_,λk hk=>s1.iZ k hk,pR e2 hs.gl⟩
        ·rcases liv b1 h1 with⟨g1,g2,g3⟩ | rfl <;> rcases liv b2 h2 with⟨k1,k2,k3⟩ | rfl
         ·exact hs.inj b1 b2 g1 k1 (by simpa [c2,e8 g3,e8 k3]using e)
         ·exact absurd (hs.inj b1 b g1 hlv (by simpa [c2,e8 g3]using e)) g2
         ·exact absurd (hs.inj b2 b k1 hlv (by simpa [c2,e8 k3]using e.symm)) k2
         ·rfl
        ·by_cases hl':live c2.Z b'
         ·rcases liv b' hl' with⟨g1,g2,g3⟩ | rfl
          ·have hb2:(c.Z.set b .dead++[.cells t (cs.take (len*i'.size)++new) false])[b']?=some o':=hb'
           rw[bq (by simpa using g3),OF (λe=>g2 e.symm)]at hb2
           refine (hs.obj b' o' hb2).mono e2 g3 ?_
           have:c.blk b≠c.blk b':=λe=>g2 (hs.inj b b' hlv g1 e).symm
           simp[c2,c1,Cx.put,this]
          ·have hb2:(c.Z.set b .dead++[.cells t (cs.take (len*i'.size)++new) false])[c.Z.length]?=some o':=hb'
           rw[ck (by simp)]at hb2
           simp at hb2
           subst hb2
           refine vQ.zZ (arr:=vals.toArray) (xs:=arr.toList.take (len*i'.size)++news) (ys:=arr.toList.drop (len*i'.size+news.length)) ?_ ?_ ⟨i',hi,?_⟩ (λh=>by cases h) (by simp[hvals]) hV2 (wC (Se (a:=0) a7) hok)
           ·simpa [c2]using hheap
           ·simp only[c2,b9];rw[hvl,a2]
           ·simp only[c2,b9];exact a3'
         ·cases o' with
          |dead=>exact True.intro
          |_=>exact (hl' ⟨_,hb',rfl⟩).elim
        ·rcases liv b' hl' with⟨g1,_,g3⟩ | rfl
         ·have:=hs.nC b' g1
          simpa [c2,c1,Cx.put,e8 g3]using this
         ·have:=hs.nC b hlv
          simpa [c2,c1,Cx.put]using this
       refine⟨c2,.slice (some ⟨c.blk b,0,none⟩) (len+n) cap',?_,rfl,e2,s2,?_⟩
       ·rw[nE he hsi rfl hi ats ty hat hz hlo hin c.w (hfc c.w λ_ _=>rfl)]
        have hst:(storeCells ((⟨c.blk b,0,none⟩:Addr).add (len*i'.size)) news 0).run P c.w=(storeCells ⟨c.blk b,0,none⟩ news (len*i'.size)).run P c.w:=by
         have hrun':=run_storeCells_at (P:=P) (c.blk b) (len*i'.size) t news 0 arr c.w a1 (by omega) (hnV.lZ hok)
         rw[Aj a1]at hrun'
         simp only[kj]at hrun'
         rw[<- hvals]at hrun'
         rw[Addr.add_lit,cz,hrun',hrun]
        dsimp only
        rw[hst,hrun]
        rfl
       ·have:c2.blk c.Z.length=c.blk b:=by simp[c2]
        rw[<- this]
        refine .sl _ _ _ _ _ (by simp[c2,c1,Cx.put]) hin (λk hk=>by cases hk) (λ_=>?_)
        simp only[c2,b9]
        rw[a3'];exact htot
      ·
       obtain⟨nc,rest,g1,g2,g3⟩:=lX he hsi rfl hi ats ty hat hz rfl hlo (by omega) (xR hrm (by omega)) c.w hofc hfc
       have e1:=c.uZ b
       obtain⟨c',q1,q2,q3,q4,q5⟩:=oF (Cx.LK hs b) hi (fM.mono e1 (hoV.append hnV)) (wC hook hok) (len:=len+n) (by simp[hol,hnl,ot]) g2 g1
       refine⟨c',.slice (some ⟨c.w.heap.size,0,none⟩) (len+n) nc,by rw[g3,q1];rfl,?_,e1.trans q3,q4,?_⟩
       ·rw[q2];simp[Cx.kill]
       ·simpa [Cx.kill]using q5
     ·cases h
 ·cases h
end
end
end Go.Ax
end
