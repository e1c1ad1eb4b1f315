/- Part 0 of the proof. -/
import Derived.Test.YtmbikbgdbbcbmaaGreatDoorY
import Derived.Calls
import Derived.Below
import Derived.MapKept
import Derived.Laws.CopyRow
import Derived.Laws.StructEq
import Derived.Laws.Cells
import Derived.Laws.Strings
import Derived.Laws.Strings2
import Derived.Laws.Slices
set_option maxHeartbeats 8000000
set_option linter.unusedVariables false
open List (getElem?_take)
section
namespace Go.Ax
open Go
inductive V where
 |bool (b:Bool) | int (k:IntKind) (n:Int) | str (s:List Nat)
 |fP | aF | bX | rC | rN
 |bS (g:Bool) (xs:List (List V)) (full:Bool)
 |cZ (g:Bool) (cs:List V)
 |imp (g:Bool) (es:List (V × V))
 |ref (b off:Nat)
 |sl (b off len:Nat) (cap:Option Nat)
 |mp (b:Nat)
 |fn (f:Nat) (first cap:List V)
 |agg (cs:List V) | fM (vs:List V)
 |AV (t:Nat) (v:V)
 |undef
 deriving Inhabited
inductive O where
 |dead
 |cells (t:Nat) (cs:List V) (exact:Bool)
 |map (es:List (V × V))
 |Jk (s:List Nat) (pos:Nat)
 |s_ (left:List (V × V)) (cur:Option (V × V))
 deriving Inhabited
inductive Kd where
 |bool | int (k:IntKind) | str | ptr (e:Nat) | sl (e:Nat) | arr (n e:Nat) | map (k e:Nat)
 |jT (fs:List (Nat × Nat)) | func | AV | other
 deriving Inhabited
structure Ty where
 kd:Kd
 size:Nat
 bytes:Nat
 zero:V
 deriving Inhabited
structure Fn where
 code:Code
 ntmps:Nat
 results:List ResultVar
 deriving Inhabited
inductive FT where
 |leaf
 |node (v:V) (l r:FT)
 deriving Inhabited
def FT.get:FT->Nat->V
 | .leaf,_=>.undef
 | .node v l r,t=>match Nat.beq t 0 with
  |true=>v
  |false=>match Nat.beq (Nat.mod t 2) 1 with
   |true=>l.get (Nat.div t 2)
   |false=>r.get (Nat.sub (Nat.div t 2) 1)
def FT.put (v:V):Nat->FT->Nat->FT
 |0,f,_=>f
 |k+1,.leaf,t=>match Nat.beq t 0 with
  |true=>.node v .leaf .leaf
  |false=>match Nat.beq (Nat.mod t 2) 1 with
   |true=>.node .undef (FT.put v k .leaf (Nat.div t 2)) .leaf
   |false=>.node .undef .leaf (FT.put v k .leaf (Nat.sub (Nat.div t 2) 1))
 |k+1,.node u l r,t=>match Nat.beq t 0 with
  |true=>.node v l r
  |false=>match Nat.beq (Nat.mod t 2) 1 with
   |true=>.node u (FT.put v k l (Nat.div t 2)) r
   |false=>.node u l (FT.put v k r (Nat.sub (Nat.div t 2) 1))
structure Fr where
 n:Nat
 f:FT
 deriving Inhabited
def Fr.get (fr:Fr) (t:Nat):Option V:=match Nat.blt t fr.n with
 |true=>some (fr.f.get t)
 |false=>none
def Fr.put (fr:Fr) (t:Nat) (v:V):Fr:=match Nat.blt t fr.n with
 |true=>⟨fr.n,FT.put v (t+1) fr.f t⟩
 |false=>fr
def Fr.fill (fr:Fr) (i:Nat):List V->Fr
 | []=>fr
 |v::r=>(fr.put i v).fill (i+1) r
def Fr.init (n:Nat) (args:List V):Option Fr:=match Nat.ble args.length n with
 |true=>some (Fr.fill ⟨n,.leaf⟩ 0 args)
 |false=>none
abbrev Sg:=List O
inductive Mode where
 |eS | move | shared
 deriving Inhabited
structure Env where
 ty:Nat->Option Ty
 fn:Nat->Option Fn
 mode:Nat->Mode
 spec:Nat->Option (List V->Option V)
 hspec:Nat->Option (List V->Sg->Option (V × Sg))
 eqs:Nat->Option (List Kd)
 gl:Nat->Option (Obj->Prop)
 Eb:Nat->Bool
def no {α:Type} (_:String):Option α:=none
def lo:IntKind->Int
 | .i8=>-128 | .i16=>-32768 | .i32=>-2147483648 | .i64=>-9223372036854775808 | _=>0
def hi:IntKind->Int
 | .i8=>127 | .i16=>32767 | .i32=>2147483647 | .i64=>9223372036854775807
 | .u8=>255 | .u16=>65535 | .u32=>4294967295 | .u64=>18446744073709551615
def hiN:IntKind->Nat
 | .i8=>127 | .i16=>32767 | .i32=>2147483647 | .i64=>9223372036854775807
 | .u8=>255 | .u16=>65535 | .u32=>4294967295 | .u64=>18446744073709551615
def Z6:IntKind->Nat
 | .i8=>128 | .i16=>32768 | .i32=>2147483648 | .i64=>9223372036854775808 | _=>0
def wr (k:IntKind) (n:Int):Int:=match n with
 | .ofNat m=>match Nat.ble m (hiN k) with
  |true=>.ofNat m
  |false=>k.wrap n
 | .negSucc m=>match Nat.blt m (Z6 k) with
  |true=>.negSucc m
  |false=>k.wrap n
theorem Al (k:IntKind) (n:Int):wr k n=if decide (lo k<=n)&&decide (n<=hi k) then n else k.wrap n:=by
 cases n with
 |ofNat m=>
  simp only[wr];cases h:Nat.ble m (hiN k) with
  |true=>
   rw[Nat.ble_eq]at h;rw[az];simp only[ai,aa];cases k <;> simp only[lo,hi,hiN]at h ⊢ <;> constructor <;> first | omega | (have:(0:Int)<=Int.ofNat m:=Int.natCast_nonneg m;have e:Int.ofNat m=(m:Int):=rfl;omega)
  |false=>
   have h:¬ m<=hiN k:=λg=>by rw[<- Nat.ble_eq,h]at g;cases g
   rw[an];simp only[ai,aa];rintro⟨_,g⟩;have e:Int.ofNat m=(m:Int):=rfl;cases k <;> simp only[hi,hiN]at h g <;> omega
 |negSucc m=>
  simp only[wr];cases h:Nat.blt m (Z6 k) with
  |true=>
   rw[oo]at h;rw[az];simp only[ai,aa];cases k <;> simp only[lo,hi,Z6]at h ⊢ <;> constructor <;> omega
  |false=>
   have h:¬ m<Z6 k:=λg=>by rw[<- oo,h]at g;cases g
   rw[an];simp only[ai,aa];rintro⟨g,_⟩;cases k <;> simp only[lo,Z6]at h g <;> omega
def Xs:Int->Int->Bool
 | .ofNat a,.ofNat b=>Nat.beq a b
 | .negSucc a,.negSucc b=>Nat.beq a b
 |_,_=>false
def leI:Int->Int->Bool
 | .ofNat a,.ofNat b=>Nat.ble a b
 | .negSucc a,.negSucc b=>Nat.ble b a
 | .negSucc _,.ofNat _=>true
 | .ofNat _,.negSucc _=>false
def ltI:Int->Int->Bool
 | .ofNat a,.ofNat b=>Nat.blt a b
 | .negSucc a,.negSucc b=>Nat.blt b a
 | .negSucc _,.ofNat _=>true
 | .ofNat _,.negSucc _=>false
def KN:Int->Int->Int
 | .ofNat a,.ofNat b=>.ofNat (Nat.add a b)
 |a,b=>a+b
def RS:Int->Int->Int
 | .ofNat a,.ofNat b=>match Nat.ble b a with
  |true=>.ofNat (Nat.sub a b)
  |false=>.ofNat a - .ofNat b
 |a,b=>a-b
theorem GK (a b:Int):Xs a b=decide (a=b):=by
 cases a <;> cases b <;> simp only[Xs] <;> rw[e8] <;> simp <;> omega
theorem P8 (a b:Int):leI a b=decide (a<=b):=by
 cases a <;> cases b <;> simp only[leI] <;> rw[e8] <;> simp <;> omega
theorem jB (a b:Int):ltI a b=decide (a<b):=by
 cases a <;> cases b <;> simp only[ltI] <;> rw[e8] <;> simp <;> omega
theorem G3 (a b:Int):KN a b=a+b:=by
 cases a <;> cases b <;> rfl
theorem F8 (a b:Int):RS a b=a-b:=by
 cases a <;> cases b <;> simp only[RS];split
 ·rename_i h;rw[Nat.ble_eq]at h;show ((Nat.sub _ _:Nat):Int)=_;have e1:∀m:Nat,Int.ofNat m=(m:Int):=λ_=>rfl;rw[e1,e1,Nat.sub_eq,Int.ofNat_sub h]
 ·rfl
def bytes (s:ByteArray):List Nat:=s.data.toList.map UInt8.toNat
def sI (s:List Nat):ByteArray:=⟨(s.map UInt8.ofNat).toArray⟩
def slt:List Nat->List Nat->Bool
 |_,[]=>false
 | [],_::_=>true
 |a::x,b::y=>match Nat.blt a b with
  |true=>true
  |false=>match Nat.beq a b with
   |true=>slt x y
   |false=>false
theorem yN (a b:Nat) (x y:List Nat):slt (a::x) (b::y)=(decide (a<b)||(decide (a=b)&&slt x y)):=by
 simp only[slt];cases h:Nat.blt a b with
 |true=>rw[oo]at h;simp[h]
 |false=>
  have g:¬ a<b:=λg=>by rw[<- oo,h]at g;cases g
  cases h2:Nat.beq a b with
  |true=>have:=jf h2;simp[this]
  |false=>have:=Nat.ne_of_beq_eq_false h2;simp[this,g]
def seq:List Nat->List Nat->Bool
 | [],[]=>true
 |a::x,b::y=>match Nat.beq a b with
  |true=>seq x y
  |false=>false
 |_,_=>false
theorem CO (a b:Nat) (x y:List Nat):seq (a::x) (b::y)=(decide (a=b)&&seq x y):=by
 simp only[seq];cases h2:Nat.beq a b with
 |true=>have:=jf h2;simp[this]
 |false=>have:=Nat.ne_of_beq_eq_false h2;simp[this]
def V.cells:V->List V
 | .agg cs=>cs
 |v=>[v]
def V.aY:V->Bool
 | .agg _ | .fM _ | .undef=>false
 |_=>true
def bF:Value->Option V
 | .bool b=>some (.bool b)
 | .int k n=>some (.int k n)
 | .string s=>some (.str (bytes s))
 | .pointer none=>some .fP
 | .slice none 0 0=>some .aF
 | .map none=>some .bX
 | .nilFunc=>some .rC
 | .nilIface=>some .rN
 |_=>none
def ofValues:List Value->Option (List V)
 | []=>some []
 |x::r=>match bF x,ofValues r with
  |some v,some l=>some (v::l)
  |_,_=>none
def ofValue:Value->Option V
 | .agg cs=>match ofValues cs.toList with
  |some l=>some (.agg l)
  |none=>none
 |v=>bF v
def cL (g:Bool):V->Bool
 | .bS h _ _ | .cZ h _ | .imp h _=>g || !h
 | .bool _ | .int .. | .str _ | .fP | .aF | .bX | .rC | .rN=>true
 | .fn _ [] []=>true
 |_=>false
def plainCell:V->Bool
 | .bool _ | .int .. | .str _=>true
 |_=>false
def rows (sz:Nat):Nat->List V->List (List V)
 |0,_=>[]
 |n+1,cs=>cs.take sz::rows sz n (cs.drop sz)
def aX {α β:Type} (f:α->Option β):List α->Option (List β)
 | []=>some []
 |x::r=>match f x with
  |some y=>match aX f r with
   |some l=>some (y::l)
   |none=>none
  |none=>none
def bG (Z:Sg) (ty:Nat->Option Ty) (g:Bool):Nat->V->Option V
 |0,_=>no "snap: fuel"
 |n+1,v=>
  let rec1 (v:V):Option V:=match bG Z ty g n v with
   |some v=>if cL g v then some v else no "snap: borrowed"
   |none=>none
  match v with
  | .ref b off=>match Z[b]? with
   |some (.cells _ cs _)=>match aX rec1 (cs.drop off) with
    |some l=>some (.cZ g l)
    |none=>none
   |_=>no "snap: dead ref"
  | .sl b off len cap=>match Z[b]? with
   |some (.cells t cs ex)=>match ty t with
    |some i=>if off+len*i.size<=cs.length then match aX rec1 ((cs.drop off).take (len*i.size)) with
     |some l=>some (.bS g (rows i.size len l) (match cap with | some k=>k==len | none=>ex&&decide (0<i.size)&&(off+len*i.size==cs.length)))
     |none=>none
     else no "snap: short"
    |none=>no "snap: type"
   |_=>no "snap: dead sl"
  | .mp b=>match Z[b]? with
   |some (.map es)=>match aX (λ(e:V × V)=>if e.1.cells.all plainCell then (match e.2 with
      | .agg cs=>match aX rec1 cs with
       |some cs=>some (e.1,V.agg cs)
       |none=>none
      |v=>match rec1 v with
       |some v=>some (e.1,v)
       |none=>none) else none) es with
    |some l=>some (.imp g l)
    |none=>none
   |_=>no "snap: dead map"
  | .fn f [] []=>some (.fn f [] [])
  | .fn ..=>no "snap: a closure in memory"
  | .agg _ | .fM _ | .undef | .AV ..=>no "snap: odd cell"
  |v=>some v
def dL:Nat:=12
def aU (Z:Sg) (ty:Nat->Option Ty) (g:Bool):V->Option V
 | .fn f a b=>match aX one a,aX one b with
  |some a,some b=>some (.fn f a b)
  |_,_=>none
 | .agg cs=>match aX one cs with
  |some l=>some (.agg l)
  |none=>none
 | .AV t v=>match one v with
  |some v=>some (.AV t v)
  |none=>none
 |v=>one v
where
 one (v:V):Option V:=match bG Z ty g dL v with
  |some v=>if cL g v then some v else no "snap: borrowed"
  |none=>none
def cG (Z:Sg) (ty:Nat->Option Ty) (g:Bool):V->Option V
 | .fM vs=>match aX (aU Z ty g) vs with
  |some l=>some (.fM l)
  |none=>none
 |v=>aU Z ty g v
def gK (Z:Sg):Nat->V->List Nat
 |0,_=>[]
 |n+1,v=>match v with
  | .ref b _ | .sl b _ _ _=>b::match Z[b]? with
   |some (.cells _ cs _)=>cs.flatMap (gK Z n)
   |_=>[]
  | .mp b=>b::match Z[b]? with
   |some (.map es)=>es.flatMap λe=>e.2.cells.flatMap (gK Z n)
   |_=>[]
  |_=>[]
def mR (Z:Sg):V->List Nat
 | .fn _ a b=>a.flatMap (gK Z dL)++b.flatMap (gK Z dL)
 | .agg cs=>cs.flatMap (gK Z dL)
 | .AV _ v=>gK Z dL v
 |v=>gK Z dL v
def kill (Z:Sg) (l:List Nat):Sg:=l.foldl (λZ b=>Z.set b .dead) Z
def isAgg:Kd->Bool
 | .jT _ | .arr ..=>true
 |_=>false
def loadAt (E:Env) (Z:Sg) (t:Nat) (a:V):Option V:=
 match E.ty t with
 |none=>no "load: type"
 |some i=>
  match a with
  | .ref b off=>match Z[b]? with
   |some (.cells _ cs _)=>
    if isAgg i.kd then (if off+i.size<=cs.length then some (.agg ((cs.drop off).take i.size)) else no "load: short")
    else cs[off]?
   |_=>no "load: dead"
  | .cZ _ cs=>
   if isAgg i.kd then (if i.size<=cs.length then some (.agg (cs.take i.size)) else no "load: short")
   else cs.head?
  |_=>no "load: no address"
def setCells (cs:List V) (off:Nat) (vs:List V):List V:=cs.take off++vs++cs.drop (off+vs.length)
def storeAt (E:Env) (Z:Sg) (t:Nat) (a v:V):Option Sg:=
 match E.ty t,a with
 |some i,.ref b off=>match Z[b]? with
  |some (.cells u cs ex)=>
   if v.cells.length==i.size&&v.cells.all V.aY&&decide (off+i.size<=cs.length) then some (Z.set b (.cells u (setCells cs off v.cells) ex))
   else no "store: form"
  |_=>no "store: dead"
 |_,_=>no "store: no address"
def fill (place:Nat->Option (Nat × Nat)) (cells:List V):List (Nat × V)->Option (List V)
 | []=>some cells
 |(i,v)::rest=>match place i with
  |none=>none
  |some (off,size)=>
   if decide (v.cells.length≠size)||decide (off+v.cells.length > cells.length) || !v.cells.all V.aY then none
   else fill place (setCells cells off v.cells) rest
def placeOf (E:Env) (fs:List (Nat × Nat)) (j:Nat):Option (Nat × Nat):=
 match fs[j]? with
 |some (off,ft)=>match E.ty ft with
  |some i=>some (off,i.size)
  |none=>none
 |none=>none
def gX (n:Nat) (z:List V):List V:=match n with
 |0=>[]
 |n+1=>z++gX n z
def eqs:List Kd->List V->List V->Option Bool
 | [],[],[]=>some true
 | .bool::sh,.bool x::a,.bool y::b=>match eqs sh a b with
  |some q=>some ((x==y)&&q)
  |none=>none
 | .int k::sh,.int k1 x::a,.int k2 y::b=>if k1=k/\k2=k then match eqs sh a b with
  |some q=>some (decide (x=y)&&q)
  |none=>none
  else none
 | .str::sh,.str x::a,.str y::b=>match eqs sh a b with
  |some q=>some (seq x y&&q)
  |none=>none
 |_,_,_=>none
def dF (E:Env) (t:Nat) (x y:V):Option Bool:=
 match E.ty t with
 |some { kd:=.str,.. }=>match x,y with
  | .str a,.str b=>some (seq a b)
  |_,_=>none
 |some { kd:=.int _,.. }=>match x,y with
  | .int k a,.int k' b=>if k=k' then some (decide (a=b)) else none
  |_,_=>none
 |some { kd:=.jT _,.. }=>match E.eqs t,x,y with
  |some sh,.agg a,.agg b=>eqs sh a b
  |_,_,_=>none
 |_=>none
def iQ (eq:V->V->Option Bool) (k:V):List (V × V)->Option (Option V)
 | []=>some none
 |(k',v)::r=>match eq k k' with
  |some true=>some (some v)
  |some false=>iQ eq k r
  |none=>none
def kN (eq:V->V->Option Bool) (k v:V):List (V × V)->Option (List (V × V))
 | []=>some [(k,v)]
 |(k',v')::r=>match eq k k' with
  |some true=>some ((k,v)::r)
  |some false=>match kN eq k v r with
   |some r=>some ((k',v')::r)
   |none=>none
  |none=>none
def mP (E:Env) (t:Nat) (xC:Bool) (x y:V):Option Bool:=
 match E.ty t with
 |none=>none
 |some i=>
  match i.kd,x,y with
  | .bool,.bool a,.bool b=>some (a==b)
  | .ptr _,.fP,.fP=>some true
  | .ptr _,.fP,.ref .. | .ptr _,.fP,.cZ .. | .ptr _,.ref ..,.fP | .ptr _,.cZ ..,.fP=>some false
  | .ptr e,.ref b o,.ref b' o'=>match E.ty e with
   |some ei=>if b=b'/\¬ ei.size=0 then some (decide (o=o')) else none
   |none=>none
  | .sl _,.aF,.aF=>some true
  | .sl _,.aF,.bS .. | .sl _,.aF,.sl .. | .sl _,.bS ..,.aF | .sl _,.sl ..,.aF=>some false
  | .map ..,.bX,.bX=>some true
  | .map ..,.bX,.imp .. | .map ..,.bX,.mp .. | .map ..,.imp ..,.bX | .map ..,.mp ..,.bX=>some false
  | .func,.rC,.rC=>some true
  | .func,.rC,.fn .. | .func,.fn ..,.rC=>some false
  | .AV,.rN,.rN=>if xC then some true else none
  | .AV,.rN,.AV .. | .AV,.AV ..,.rN=>some false
  | .jT _,.agg a,.agg b=>match E.eqs t with
   |some sh=>eqs sh a b
   |none=>none
  |_,_,_=>none
def arith (op:BinOp) (k:IntKind) (a b:Int):Option V:=
 match op with
 | .add=>some (.int k (wr k (KN a b)))
 | .sub=>some (.int k (wr k (RS a b)))
 | .mul=>some (.int k (wr k (a*b)))
 | .quo=>match Xs b 0 with
  |true=>none
  |false=>some (.int k (wr k (a.tdiv b)))
 | .rem=>match Xs b 0 with
  |true=>none
  |false=>some (.int k (a.tmod b))
 | .and=>some (.int k (k.wrap (BitVec.ofInt k.bits a &&& BitVec.ofInt k.bits b).toNat))
 | .or=>some (.int k (k.wrap (BitVec.ofInt k.bits a ||| BitVec.ofInt k.bits b).toNat))
 | .xor=>some (.int k (k.wrap (BitVec.ofInt k.bits a ^^^ BitVec.ofInt k.bits b).toNat))
 | .andNot=>some (.int k (k.wrap (BitVec.ofInt k.bits a &&& ~~~ BitVec.ofInt k.bits b).toNat))
 | .eql=>some (.bool (Xs a b))
 | .neq=>some (.bool (!Xs a b))
 | .lss=>some (.bool (ltI a b))
 | .leq=>some (.bool (leI a b))
 | .gtr=>some (.bool (ltI b a))
 | .geq=>some (.bool (leI b a))
 |_=>none
theorem eO (op:BinOp) (k:IntKind) (a b:Int):arith op k a b=(match op with
 | .add=>some (.int k (wr k (a+b)))
 | .sub=>some (.int k (wr k (a-b)))
 | .mul=>some (.int k (wr k (a*b)))
 | .quo=>if b=0 then none else some (.int k (wr k (a.tdiv b)))
 | .rem=>if b=0 then none else some (.int k (a.tmod b))
 | .and=>some (.int k (k.wrap (BitVec.ofInt k.bits a &&& BitVec.ofInt k.bits b).toNat))
 | .or=>some (.int k (k.wrap (BitVec.ofInt k.bits a ||| BitVec.ofInt k.bits b).toNat))
 | .xor=>some (.int k (k.wrap (BitVec.ofInt k.bits a ^^^ BitVec.ofInt k.bits b).toNat))
 | .andNot=>some (.int k (k.wrap (BitVec.ofInt k.bits a &&& ~~~ BitVec.ofInt k.bits b).toNat))
 | .eql=>some (.bool (decide (a=b)))
 | .neq=>some (.bool (!decide (a=b)))
 | .lss=>some (.bool (decide (a<b)))
 | .leq=>some (.bool (decide (a<=b)))
 | .gtr=>some (.bool (decide (b<a)))
 | .geq=>some (.bool (decide (b<=a)))
 |_=>none):=by
 cases op <;> simp only[arith,GK,jB,P8,G3,F8]
 all_goals
  by_cases h:b=0
  ·simp[h]
  ·simp[h]
def shift (op:BinOp) (k:IntKind) (a b:Int):Option V:=
 if b<0 then none else
 match op with
 | .shl=>some (.int k (k.wrap (a*2 ^ (min b.toNat k.bits))))
 | .shr=>some (.int k (a.fdiv (2 ^ (min b.toNat k.bits))))
 |_=>none
def tZ (op:BinOp) (a b:List Nat):Option V:=
 match op with
 | .add=>if decide (a.length+b.length<=9223372036854775807) then some (.str (a++b)) else none
 | .eql=>some (.bool (seq a b))
 | .neq=>some (.bool (!seq a b))
 | .lss=>some (.bool (slt a b))
 | .leq=>some (.bool (slt a b||seq a b))
 | .gtr=>some (.bool (!(slt a b||seq a b)))
 | .geq=>some (.bool (!slt a b))
 |_=>none
def bin (E:Env) (op:BinOp) (t:Nat) (xC:Bool) (x y:V):Option V:=
 match x,y with
 | .int k a,.int k' b=>
  match op with
  | .shl | .shr=>shift op k a b
  |_=>if k=k' then arith op k a b else none
 | .str a,.str b=>tZ op a b
 |x,y=>match op with
  | .eql=>(mP E t xC x y).map .bool
  | .neq=>(mP E t xC x y).map (λb=>.bool (!b))
  |_=>none
def unop (op:UnOp) (x:V):Option V:=
 match op,x with
 | .not,.bool b=>some (.bool !b)
 | .neg,.int k n=>some (.int k (wr k (0-n)))
 |_,_=>none
def u8s (s:List Nat):List V:=s.map λ(c:Nat)=>.int .u8 (c:Int)
def HY:List V->Option (List Nat)
 | []=>some []
 | .int .u8 n::r=>if decide (0<=n)&&decide (n<256) then (match HY r with | some l=>some (n.toNat::l) | none=>none) else none
 |_=>none
def F7 (sz:Nat):List (List V)->Bool
 | []=>true
 |r::_=>r.length==sz
def elems (Z:Sg) (size:Nat):V->Option (List V × Nat)
 | .aF=>some ([],0)
 | .str s=>if size=1 then some (u8s s,s.length) else none
 | .bS _ xs _=>if F7 size xs then some (xs.flatten,xs.length) else none
 | .sl b off len _=>match Z[b]? with
  |some (.cells _ cs _)=>if off+len*size<=cs.length then some ((cs.drop off).take (len*size),len) else none
  |_=>none
 |_=>none
def roomy (need bytes:Nat):Bool:=decide ((2*need+256)*(bytes+1)<=281474976710656)
def pO (need bytes:Nat):Bool:=decide (need*(bytes+1)<=281474976710656)
def AR:Kd->Bool
 | .int _=>true
 |_=>false
def eA (E:Env) (ats:Array Nat):Bool:=
 match ats[1]? with
 |none=>true
 |some xt=>match E.ty xt with
  |some xi=>!AR xi.kd
  |none=>false
def append (E:Env) (Z:Sg) (argTypes:Array Nat) (s x:V):Option (V × Sg):=
 match argTypes[0]? with
 |none=>none
 |some st=>match E.ty st with
  |some { kd:=.sl e,.. }=>match E.ty e with
   |none=>none
   |some i=>
    if !eA E argTypes||i.size==0 then no "append: size" else
    match elems Z i.size x with
    |none=>no "append: what"
    |some (new,n)=>
     match s with
     | .aF=>if n=0 then some (.aF,Z) else if pO n i.bytes then some (.sl Z.length 0 n none,Z++[.cells e new false]) else no "append: room"
     | .bS _ xs full=>
      if n=0 then some (s,Z)
      else if full&&F7 i.size xs&&roomy (xs.length+n) i.bytes then some (.sl Z.length 0 (xs.length+n) none,Z++[.cells e (xs.flatten++new) false])
      else no "append: shared"
     | .sl b off len cap=>match Z[b]? with
      |some (.cells t cs ex)=>
       if !(t==e&&decide (off+len*i.size<=cs.length)&&roomy (len+n) i.bytes) then no "append: form" else
       match cap with
       |some k=>
        if len+n<=k then (if off+(len+n)*i.size<=cs.length then some (.sl b off (len+n) cap,Z.set b (.cells t (setCells cs (off+len*i.size) new) ex)) else no "append: cap")
        else some (.sl Z.length 0 (len+n) none,Z++[.cells e ((cs.drop off).take (len*i.size)++new) false])
       |none=>
        if off+(len+n)*i.size<=cs.length then some (.sl b off (len+n) none,Z.set b (.cells t (setCells cs (off+len*i.size) new) ex))
        else if ex then some (.sl Z.length 0 (len+n) none,Z++[.cells e ((cs.drop off).take (len*i.size)++new) false])
        else if off=0 then some (.sl Z.length 0 (len+n) none,Z.set b .dead++[.cells e (cs.take (len*i.size)++new) false])
        else no "append: off"
      |_=>no "append: dead"
     |_=>no "append: form"
  |_=>none
def bound (len:Nat):Option V->Nat->Option Nat
 |none,d=>some d
 |some (.int _ i),_=>if decide (0<=i)&&decide (i<=len) then some i.toNat else none
 |_,_=>none
def Dy (mx:Option V) (m h:Nat) (full:Bool) (n:Nat):Bool:=
 match mx with
 |some _=>m==h
 |none=>full&&h==n
def Hp (n off size:Nat) (cap:Option Nat):Nat:=
 match cap with
 |some k=>if k<=(n-off) / size then k else (n-off) / size
 |none=>(n-off) / size
def slice (E:Env) (Z:Sg) (t:Nat) (x:V) (low high max:Option V):Option V:=
 match E.ty t with
 |none=>none
 |some ti=>
 match ti.kd,x with
 | .str,.str s=>if max.isSome then none else
  match bound s.length high s.length with
  |none=>none
  |some h=>match bound h low 0 with
   |none=>none
   |some l=>some (.str ((s.drop l).take (h-l)))
 | .sl e,.aF=>match E.ty e,bound 0 max 0,max.isSome&&high.isNone with
  |some _,some m,false=>match bound m high 0 with
   |some h=>match bound h low 0 with
    |some _=>some .aF
    |none=>none
   |none=>none
  |_,_,_=>none
 | .sl e,.bS g xs full=>match E.ty e,max.isSome&&high.isNone with
  |some i,false=>if !F7 i.size xs then none else
   match bound xs.length max xs.length with
   |none=>none
   |some m=>match bound m high xs.length with
    |none=>none
    |some h=>match bound h low 0 with
     |none=>none
     |some l=>some (.bS g ((xs.drop l).take (h-l)) (Dy max m h full xs.length))
  |_,_=>none
 | .sl e,.sl b off len cap=>
  match E.ty e,Z[b]?,max.isSome&&high.isNone with
  |some i,some (.cells u cs ex),false=>
   if i.size=0 then none else
   if !(u==e) then none else
   match max with
   |some _=>match bound (Hp cs.length off i.size cap) max 0 with
    |none=>none
    |some m=>match bound m high 0 with
     |none=>none
     |some h=>match bound h low 0 with
      |none=>none
      |some l=>if m=l then some (.sl b off 0 (some 0)) else some (.sl b (off+l*i.size) (h-l) (some (m-l)))
   |none=>match bound (Hp cs.length off i.size cap) high len with
    |none=>none
    |some h=>match bound h low 0 with
     |none=>none
     |some l=>match cap with
      |some k=>if k=l then some (.sl b off 0 (some 0)) else some (.sl b (off+l*i.size) (h-l) (some (k-l)))
      |none=>
       if off+l*i.size<cs.length then some (.sl b (off+l*i.size) (h-l) none)
       else if ex then some (.sl b off 0 (some 0))
       else if l=0 then some (.sl b off (h-l) none)
       else no "slice: end"
  |_,_,_=>no "slice: dead"
 |_,_=>no "slice: form"
def indexAddr (E:Env) (t:Nat) (x i:V):Option V:=
 match i with
 | .int _ n=>
  if n<0 then none else
  match x with
  | .bS g xs _=>match E.ty t with
   |some { kd:=.sl e,.. }=>match E.ty e,xs[n.toNat]? with
    |some ei,some r=>if r.length==ei.size then some (.cZ g r) else no "index: size"
    |_,_=>no "index"
   |_=>none
  | .sl b off len _=>match E.ty t with
   |some { kd:=.sl e,.. }=>match E.ty e with
    |some ei=>if n.toNat<len then some (.ref b (off+n.toNat*ei.size)) else no "index"
    |none=>none
   |_=>none
  |_=>no "indexAddr"
 |_=>none
def index (E:Env) (t:Nat) (x i:V):Option V:=
 match E.ty t,x,i with
 |some { kd:=.str,.. },.str s,.int _ n=>if n<0 then none else match s[n.toNat]? with
  |some c=>some (.int .u8 (c:Nat))
  |none=>no "index"
 |_,_,_=>no "index: form"
def fieldAddr (E:Env) (t:Nat) (x:V) (f:Nat):Option V:=
 match E.ty t with
 |some { kd:=.jT fs,.. }=>match fs[f]? with
  |some (off,ft)=>match E.ty ft with
   |some fi=>if fi.size=0 then none else match x with
    | .ref b o=>some (.ref b (o+off))
    | .cZ g cs=>some (.cZ g (cs.drop off))
    |_=>no "fieldAddr"
   |none=>none
  |none=>none
 |_=>none
def part (E:Env) (t:Nat) (cs:List V) (off:Nat):Option V:=
 match E.ty t with
 |some i=>if isAgg i.kd then (if off+i.size<=cs.length then some (.agg ((cs.drop off).take i.size)) else none) else cs[off]?
 |none=>none
def field (E:Env) (t:Nat) (x:V) (f:Nat):Option V:=
 match E.ty t,x with
 |some { kd:=.jT fs,.. },.agg cs=>match fs[f]? with
  |some (off,ft)=>part E ft cs off
  |none=>none
 |_,_=>none
def eF (E:Env) (t:Nat) (k:V):Bool:=
 match E.ty t,k with
 |some { kd:=.str,.. },.str _=>true
 |some { kd:=.int _,.. },.int ..=>true
 |some { kd:=.jT _,.. },.agg a=>match E.eqs t with
  |some sh=>(eqs sh a a).isSome
  |none=>false
 |_,_=>false
def entriesOf (Z:Sg) (x:V):Option (List (V × V)):=
 match x with
 | .bX=>some []
 | .imp _ es=>some es
 | .mp b=>match Z[b]? with
  |some (.map es)=>some es
  |_=>none
 |_=>none
def lookup (E:Env) (Z:Sg) (t:Nat) (x k:V) (ok:Bool):Option V:=
 match E.ty t with
 |some { kd:=.map kt e,.. }=>
  if !eF E kt k then no "lookup: key" else
  match E.ty e with
  |none=>none
  |some ei=>
   match entriesOf Z x with
   |none=>none
   |some es=>match iQ (dF E kt) k es with
    |none=>no "lookup: find"
    |some r=>
     let v:=match r with | some v=>v | none=>ei.zero
     some (if ok then .fM [v,.bool r.isSome] else v)
 |_=>no "lookup: type"
def fB:V->Bool
 | .agg cs=>cs.all V.aY
 |v=>v.aY
def mapUpdate (E:Env) (Z:Sg) (t:Nat) (x k v:V):Option Sg:=
 match E.ty t,x with
 |some { kd:=.map kt _,.. },.mp b=>
  if !eF E kt k || !fB v then no "mapUpdate: form" else
  match Z[b]? with
  |some (.map es)=>(kN (dF E kt) k v es).map λes=>Z.set b (.map es)
  |_=>no "mapUpdate: dead"
 |_,_=>no "mapUpdate"
def convert (E:Env) (Z:Sg) (src dst:Nat) (x:V):Option V:=
 match E.ty src,E.ty dst with
 |some s,some d=>match s.kd,d.kd,x with
  |_,.int k,.int _ n=>some (.int k (wr k n))
  |_,.str,.str s=>some (.str s)
  | .ptr e,.other,.ref b 0=>match Z[b]?,E.ty e with
   |some (.cells u cs true),some i=>if u=e/\cs.length=i.size/\0<i.size then some (.ref b 0) else none
   |_,_=>none
  | .other,.ptr e,.ref b 0=>match Z[b]?,E.ty e with
   |some (.cells u cs true),some i=>if u=e/\cs.length=i.size/\0<i.size/\E.Eb e=true then some (.ref b 0) else none
   |_,_=>none
  | .sl e,.str,.aF=>match E.ty e with
   |some ei=>(match ei.kd with | .int .u8=>some (.str []) | _=>none)
   |none=>none
  | .sl e,.str,.sl b off len cap=>match E.ty e with
   |some ei=>(match ei.kd with
    | .int .u8=>if ei.size=1 then (match elems Z 1 (.sl b off len cap) with
     |some (cs,_)=>(match HY cs with | some l=>some (.str l) | none=>none)
     |none=>none) else none
    |_=>none)
   |none=>none
  | .sl e,.str,.bS g xs f=>match E.ty e with
   |some ei=>(match ei.kd with
    | .int .u8=>if ei.size=1 then (match elems Z 1 (.bS g xs f) with
     |some (cs,_)=>(match HY cs with | some l=>some (.str l) | none=>none)
     |none=>none) else none
    |_=>none)
   |none=>none
  |_,_,_=>no "convert"
 |_,_=>no "convert"
def CA (E:Env) (src dst:Nat) (x:V):Option V:=
 match x with
 | .str s=>match E.ty src,E.ty dst with
  |some { kd:=.str,.. },some { kd:=.sl e,.. }=>match E.ty e with
   |some { kd:=.int .u8,size:=1,.. }=>if s.length<=1099511627776 then some (.bS false (s.map λ(ch:Nat)=>[V.int .u8 (ch:Int)]) false) else none
   |_=>none
  |_,_=>none
 |_=>none
def QI:V->Option Nat
 | .aF=>some 0
 | .sl _ _ _ (some k)=>some k
 | .bS _ xs true=>some xs.length
 |_=>none
def lenOf (E:Env) (Z:Sg) (t:Nat) (x:V):Option Nat:=
 match E.ty t with
 |none=>none
 |some i=>match i.kd,x with
  | .str,.str s=>some s.length
  | .sl _,.aF=>some 0
  | .sl _,.bS _ xs _=>some xs.length
  | .sl _,.sl _ _ n _=>some n
  | .map ..,.bX=>some 0
  | .map ..,.imp _ es=>some es.length
  | .map ..,.mp b=>match Z[b]? with
   |some (.map es)=>some es.length
   |_=>none
  |_,_=>none
def gF (mx:Bool) (k:IntKind):Int->List V->Option Int
 |a,[]=>some a
 |a,.int _ b::r=>gF mx k (if mx then (if b > a then b else a) else (if b<a then b else a)) r
 |_,_=>none
def builtin (E:Env) (Z:Sg) (b:Builtin) (argTypes:Array Nat) (args:List V):Option (V × Sg):=
 match b,args with
 | .len,[x]=>match argTypes[0]? with
  |some t=>match lenOf E Z t x with
   |some n=>some (.int .i64 (n:Nat),Z)
   |none=>none
  |none=>none
 | .append,[s,x]=>append E Z argTypes s x
 | .cap,[x]=>match argTypes[0]? with
  |some t=>match E.ty t,QI x with
   |some { kd:=.sl _,.. },some n=>some (.int .i64 (n:Nat),Z)
   |_,_=>no "cap"
  |none=>none
 | .copy,[.sl _ _ _ _,.aF]=>match argTypes[0]? with
  |some t=>match E.ty t with
   |some { kd:=.sl e,.. }=>if (E.ty e).isSome then some (.int .i64 0,Z) else none
   |_=>none
  |none=>none
 | .max,.int k a::l=>match gF true k a l with
  |some n=>some (.int k n,Z)
  |none=>none
 | .min,.int k a::l=>match gF false k a l with
  |some n=>some (.int k n,Z)
  |none=>none
 | .clear,[.sl b off len _]=>match argTypes[0]? with
  |some t=>match E.ty t with
   |some { kd:=.sl e,.. }=>match E.ty e,Z[b]? with
    |some i,some (.cells u cs ex)=>
     if len=0 then some (.fM [],Z)
     else if u==e&&decide (off+len*i.size<=cs.length) then some (.fM [],Z.set b (.cells u (setCells cs off (gX len i.zero.cells)) ex)) else none
    |_,_=>none
   |_=>none
  |none=>none
 | .unsafeSliceData,[.sl b off len _]=>if len=0 then none else some (.ref b off,Z)
 | .unsafeSliceData,[.aF]=>some (.fP,Z)
 | .unsafeString,[.fP,.int .i64 0]=>match argTypes.toList with
  | [_,_]=>some (.str [],Z)
  |_=>none
 | .unsafeString,[.ref b 0,.int .i64 n]=>match argTypes.toList with
  | [pt,_]=>match E.ty pt with
   |some { kd:=.ptr e,.. }=>match E.ty e,Z[b]? with
    |some i,some (.cells u cs _)=>
     if i.size=1/\u=e/\0<n/\n<=9223372036854775807/\n.toNat<=cs.length then (match HY (cs.take n.toNat) with
      |some l=>some (.str l,Z.set b .dead)
      |none=>none)
     else no "unsafeString"
    |_,_=>none
   |_=>none
  |_=>none
 |_,_=>no "builtin"
def aR (fr:Fr):Operand->Option V
 | .tmp t=>fr.get t
 | .const v=>ofValue v
 | .global _=>no "global"
 | .func f=>some (.fn f [] [])
def eH (fr:Fr):List Operand->Option (List V)
 | []=>some []
 |x::r=>match aR fr x,eH fr r with
  |some v,some l=>some (v::l)
  |_,_=>none
def lN (fr:Fr):List (Nat × Operand)->Option (List (Nat × V))
 | []=>some []
 |(i,x)::r=>match aR fr x,lN fr r with
  |some v,some l=>some ((i,v)::l)
  |_,_=>none
def qD (fr:Fr):Option Operand->Option (Option V)
 |none=>some none
 |some x=>(aR fr x).map some
def isConst:Operand->Bool
 | .const _=>true
 |_=>false
def GG:V->Bool
 | .fM _ | .undef=>true
 |_=>false
def kA (E:Env) (fr:Fr) (Z:Sg) (c a b:Operand):Option (V × Sg):=
 match aR fr c,aR fr a,aR fr b with
  |some (.bool t),some a,some b=>some (if t then a else b,Z)
  |_,_,_=>no "pick"
def sY (E:Env) (fr:Fr) (Z:Sg) (e:Nat):Option (V × Sg):=
 match E.ty e with
  |some i=>some (.ref Z.length 0,Z++[.cells e i.zero.cells true])
  |none=>no "alloc"
def HZ (E:Env) (fr:Fr) (Z:Sg) (e:Nat) (x:Operand):Option (V × Sg):=
 match E.ty e,aR fr x with
  |some i,some v=>if v.cells.length==i.size&&v.cells.all V.aY then some (.ref Z.length 0,Z++[.cells e v.cells true]) else no "box"
  |_,_=>no "box"
def rB (E:Env) (fr:Fr) (Z:Sg) (t:Nat) (parts:Array (Nat × Operand)):Option (V × Sg):=
 match E.ty t,lN fr parts.toList with
  |some i,some ps=>match i.kd with
   | .jT fs=>if !fs.all (λf=>(E.ty f.2).isSome) then none else match fill (placeOf E fs) i.zero.cells ps with
    |some cs=>some (.agg cs,Z)
    |none=>no "build"
   |_=>no "build"
  |_,_=>no "build"
def fG (E:Env) (fr:Fr) (Z:Sg) (t len:Nat) (parts:Array (Nat × Operand)):Option (V × Sg):=
 match E.ty t,lN fr parts.toList with
  |some { kd:=.sl e,.. },some ps=>match E.ty e with
   |some i=>if len*i.size<=16777216 then (match fill (λj=>some (j*i.size,i.size)) (gX len i.zero.cells) ps with
     |some cs=>some (.sl Z.length 0 len none,Z++[.cells e cs true])
     |none=>no "buildSlice") else none
   |none=>no "buildSlice"
  |_,_=>no "buildSlice"
def iH (E:Env) (fr:Fr) (Z:Sg) (t:Nat) (a:Operand):Option (V × Sg):=
 match aR fr a with
  |some a=>(loadAt E Z t a).map (·,Z)
  |none=>none
def j_ (E:Env) (fr:Fr) (Z:Sg) (t:Nat) (a x:Operand):Option (V × Sg):=
 match aR fr a,aR fr x with
  |some a,some v=>(storeAt E Z t a v).map (.undef,·)
  |_,_=>none
def jM (E:Env) (fr:Fr) (Z:Sg) (x:Operand):Option (V × Sg):=
 match aR fr x with
  |some .fP | some .rN | some .rC | some .undef | none=>no "nilCheck"
  |some v=>some (v,Z)
def eV (E:Env) (fr:Fr) (Z:Sg) (op:BinOp) (t:Nat) (x y:Operand):Option (V × Sg):=
 match aR fr x,aR fr y with
  |some a,some b=>match bin E op t (isConst x||isConst y) a b with
   |some v=>some (v,Z)
   |none=>no "bin"
  |_,_=>no "bin: operands"
def oL (E:Env) (fr:Fr) (Z:Sg) (op:UnOp) (x:Operand):Option (V × Sg):=
 match aR fr x with
  |some a=>(unop op a).map (·,Z)
  |none=>none
def mI (E:Env) (fr:Fr) (Z:Sg) (s d:Nat) (x:Operand):Option (V × Sg):=
 match aR fr x with
  |some a=>match CA E s d a with
   |some v=>some (v,Z)
   |none=>(convert E Z s d a).map (·,Z)
  |none=>none
def pU (E:Env) (fr:Fr) (Z:Sg) (t:Nat) (x:Operand):Option (V × Sg):=
 match E.ty t,aR fr x with
  |some { kd:=.str,.. },some (.str s)=>some (.ref Z.length 0,Z++[.Jk s 0])
  |some { kd:=.map ..,.. },some (.imp _ es)=>some (.ref Z.length 0,Z++[.s_ es none])
  |some { kd:=.map ..,.. },some .bX=>some (.ref Z.length 0,Z++[.s_ [] none])
  |_,_=>no "range"
def wY (E:Env) (fr:Fr) (Z:Sg) (x:Operand):Option (V × Sg):=
 match aR fr x with
  |some (.ref b 0)=>match Z[b]? with
   |some (.Jk s pos)=>match s[pos]? with
    |some ch=>if ch<128 then some (.fM [.bool true,.int .i64 (pos:Nat),.int .i32 (ch:Nat)],Z.set b (.Jk s (pos+1)))
     else if ch<256 then some (.fM [.bool true,.int .i64 (pos:Nat),.int .i32 ((Utf8.decode (sI s) pos).1:Nat)],Z.set b (.Jk s (pos+(Utf8.decode (sI s) pos).2)))
     else some (.fM [.bool true,.int .i64 (pos:Nat),.int .i32 65533],Z.set b (.Jk s (pos+1)))
    |none=>some (.fM [.bool false],Z)
   |_=>no "next: dead"
  |_=>no "next"
def AH (fr:Fr) (Z:Sg) (x:Operand):Option (V × Sg):=
 match aR fr x with
  |some (.ref b 0)=>match Z[b]? with
   |some (.s_ _ (some e))=>some (.fM [e.1,e.2],Z)
   |_=>no "entry: dead"
  |_=>no "entry"
def eB (E:Env) (fr:Fr) (Z:Sg) (t:Nat) (x:Operand):Option (V × Sg):=
 match aR fr x with
  |some a=>match E.ty t with
   |some i=>(match i.kd with
    | .AV=>none
    |_=>if GG a then none else some (.AV t a,Z))
   |none=>none
  |none=>none
def jN (E:Env) (fr:Fr) (Z:Sg) (f:Nat) (first cap:Array Operand):Option (V × Sg):=
 match eH fr first.toList,eH fr cap.toList with
  |some a,some b=>some (.fn f a b,Z)
  |_,_=>none
def mH (E:Env) (fr:Fr) (Z:Sg) (t:Nat) (r:Option Operand):Option (V × Sg):=
 match qD fr r with
  |some none=>some (.mp Z.length,Z++[.map []])
  |some (some (.int ..))=>match E.ty t with
   |some { kd:=.map ..,.. }=>some (.mp Z.length,Z++[.map []])
   |_=>no "makeMap: type"
  |_=>no "makeMap"
def kB (E:Env) (fr:Fr) (Z:Sg) (t:Nat) (l c:Operand):Option (V × Sg):=
 match E.ty t,aR fr l,aR fr c with
  |some { kd:=.sl e,.. },some (.int _ n),some (.int _ m)=>match E.ty e with
   |some i=>if decide (0<=n)&&decide (n<=m)&&decide (m*i.bytes<=1099511627776)&&decide (m<=1099511627776) then
     some (.sl Z.length 0 n.toNat none,Z++[.cells e (gX m.toNat i.zero.cells) true]) else no "makeSlice"
   |none=>none
  |_,_,_=>no "makeSlice"
def sX (E:Env) (fr:Fr) (Z:Sg) (t:Nat) (x:Operand) (lo hi mx:Option Operand):Option (V × Sg):=
 match aR fr x,qD fr lo,qD fr hi,qD fr mx with
  |some x,some lo,some hi,some mx=>(slice E Z t x lo hi mx).map (·,Z)
  |_,_,_,_=>none
def iB (E:Env) (fr:Fr) (Z:Sg) (t:Nat) (x:Operand) (f:Nat):Option (V × Sg):=
 match aR fr x with
  |some a=>(fieldAddr E t a f).map (·,Z)
  |none=>none
def rA (E:Env) (fr:Fr) (Z:Sg) (t:Nat) (x:Operand) (f:Nat):Option (V × Sg):=
 match aR fr x with
  |some a=>(field E t a f).map (·,Z)
  |none=>none
def bZ (E:Env) (fr:Fr) (Z:Sg) (t:Nat) (x i:Operand):Option (V × Sg):=
 match aR fr x,aR fr i with
  |some a,some b=>(indexAddr E t a b).map (·,Z)
  |_,_=>none
def q_ (E:Env) (fr:Fr) (Z:Sg) (t:Nat) (x i:Operand):Option (V × Sg):=
 match aR fr x,aR fr i with
  |some a,some b=>(index E t a b).map (·,Z)
  |_,_=>none
def dW (E:Env) (fr:Fr) (Z:Sg) (t:Nat) (x k:Operand) (ok:Bool):Option (V × Sg):=
 match aR fr x,aR fr k with
  |some a,some b=>(lookup E Z t a b ok).map (·,Z)
  |_,_=>none
def dR (E:Env) (fr:Fr) (Z:Sg) (t:Nat) (m k x:Operand):Option (V × Sg):=
 match aR fr m,aR fr k,aR fr x with
  |some a,some b,some v=>(mapUpdate E Z t a b v).map (.undef,·)
  |_,_,_=>none
def cU (E:Env) (fr:Fr) (Z:Sg) (t:Operand) (i:Nat):Option (V × Sg):=
 match aR fr t with
  |some (.fM vs)=>(vs[i]?).map (·,Z)
  |_=>no "extract"
def eL (E:Env) (fr:Fr) (Z:Sg) (b:Builtin) (args:Array Operand) (argTypes:Array Nat):Option (V × Sg):=
 match eH fr args.toList with
  |some l=>builtin E Z b argTypes l
  |none=>none
def aS (E:Env) (fr:Fr) (Z:Sg) (op:Op):Option (V × Sg):=
 match op with
 | .move x | .assign x=>(aR fr x).map (·,Z)
 | .pick c a b=>kA E fr Z c a b
 | .alloc e=>sY E fr Z e
 | .box e x=>HZ E fr Z e x
 | .build t parts=>rB E fr Z t parts
 | .buildSlice t len parts=>fG E fr Z t len parts
 | .load t a=>iH E fr Z t a
 | .store t a x=>j_ E fr Z t a x
 | .nilCheck x=>jM E fr Z x
 | .binOp op t x y _=>eV E fr Z op t x y
 | .unOp op _ x=>oL E fr Z op x
 | .convert s d x=>mI E fr Z s d x
 | .range t x=>pU E fr Z t x
 | .next x true=>wY E fr Z x
 | .entry x=>AH fr Z x
 | .makeInterface t x=>eB E fr Z t x
 | .makeFunc (.func f) first cap=>jN E fr Z f first cap
 | .makeMap t r=>mH E fr Z t r
 | .makeSlice t l c=>kB E fr Z t l c
 | .slice t x lo hi mx=>sX E fr Z t x lo hi mx
 | .fieldAddr t x f=>iB E fr Z t x f
 | .field t x f=>rA E fr Z t x f
 | .indexAddr t x i=>bZ E fr Z t x i
 | .index t x i=>q_ E fr Z t x i
 | .lookup t x k ok=>dW E fr Z t x k ok
 | .mapUpdate t m k x | .insert t m k x=>dR E fr Z t m k x
 | .extract t i=>cU E fr Z t i
 | .call { callee:=.builtin b,args,argTypes }=>eL E fr Z b args argTypes
 |_=>no "op"
inductive X where
 |normal | exit (id:Nat) | ret
 deriving Inhabited
def yielded (ops:Array Oper) (fr:Fr) (j:Nat):Option Bool:=
 match ((ops[j]?).bind (·.dst)).bind fr.get with
 |some (.bool b)=>some b
 |_=>none
def cT (fr:Fr) (dst:Option Nat) (v:V):Fr:=
 match dst with
 |some d=>fr.put d v
 |none=>fr
def results (E:Env) (fr:Fr) (Z:Sg):List ResultVar->Option (List V)
 | []=>some []
 | .tmp t::r=>match fr.get t,results E fr Z r with
  |some v,some l=>some (v::l)
  |_,_=>none
 | .cell a t::r=>match fr.get a,results E fr Z r with
  |some a,some l=>(loadAt E Z t a).map (· :: l)
  |_,_=>none
abbrev yE:=Code->Fr->Sg->Option (X × Fr × Sg)
def enter (E:Env) (ev:yE) (F:Fn) (args:List V) (Z:Sg):Option (V × Sg):=
 match Fr.init F.ntmps args with
 |none=>no "args"
 |some fr=>match ev F.code fr Z with
 |some (.ret,fr,Z) | some (.normal,fr,Z)=>match results E fr Z F.results with
  |some [v]=>some (v,Z)
  |some vs=>some (.fM vs,Z)
  |none=>no "results"
 |_=>none
def g_ (E:Env) (ev:yE) (f:Nat) (args:List V) (Z:Sg):Option (V × Sg):=
 match E.hspec f with
 |some s=>s args Z
 |none=>
 match E.spec f with
 |some s=>match aX (aU Z E.ty true) args with
  |some args=>match s args with
   |some v=>(match cG [] E.ty false v with
    |some v=>some (v,Z)
    |none=>no "spec: result")
   |none=>no "spec"
  |none=>no "spec: args"
 |none=>match E.fn f with
  |none=>no ("no function " ++ toString f)
  |some F=>
   match E.mode f with
   | .shared=>match enter E ev F args Z with
    |some r=>some r
    |none=>no ("in function " ++ toString f)
   |m=>
    let g:=match m with | .eS=>true | _=>false
    match aX (aU Z E.ty g) args with
    |some args'=>match enter E ev F args' [] with
     |some (v,σ1)=>match cG σ1 E.ty false v with
      |some v=>some (v,if g then Z else kill Z (args.flatMap (mR Z)))
      |none=>no ("result of function " ++ toString f)
     |none=>no ("in function " ++ toString f)
    |none=>no ("args of function " ++ toString f)
def Dg (E:Env) (fr:Fr) (t len:Nat) (parts:List (Nat × Operand)):Option V:=
 match E.ty t,lN fr parts with
 |some { kd:=.sl e,.. },some ps=>match E.ty e with
  |some i=>if len*i.size<=16777216 then (match fill (λj=>some (j*i.size,i.size)) (gX len i.zero.cells) ps with
    |some cs=>if cs.all (cL false) then some (.bS false (rows i.size len cs) true) else no "literal: tag"
    |none=>no "literal") else none
  |none=>no "literal"
 |_,_=>no "literal"
inductive Fz where
 |no | lit | app
def Fz.lits:Fz->Bool
 | .no=>false
 |_=>true
def Fz.apps:Fz->Bool
 | .app=>true
 |_=>false
def vS (E:Env) (fr:Fr) (Z:Sg) (args:List Operand) (ats:Array Nat):Option V:=
 match eH fr args with
 |some [.aF,x]=>match aX (aU Z E.ty true) [.aF,x] with
  |some vs=>match builtin E [] .append ats vs with
   |some (v,σ1)=>cG σ1 E.ty false v
   |none=>none
  |none=>none
 |_=>no "append: not to nothing"
def lG (E:Env) (ev:yE) (dr:Fz) (op:Op) (fr:Fr) (Z:Sg):Option (V × Sg):=
 match op with
 | .call { callee:=.value f,args,.. }=>match aR fr f,eH fr args.toList with
  |some (.fn k first cap),some l=>g_ E ev k (first++l++cap) Z
  |_,_=>no "call"
 | .buildSlice t len parts=>if dr.lits then (Dg E fr t len parts.toList).map (·,Z) else aS E fr Z op
 | .call { callee:=.builtin .append,args,argTypes }=>if dr.apps then (vS E fr Z args.toList argTypes).map (·,Z) else aS E fr Z op
 |op=>aS E fr Z op
inductive K where
 |plain (f:Fr->Sg->Option (V × Sg))
 |call (f:Operand) (args:List Operand)
 |lit (t len:Nat) (parts:Array (Nat × Operand))
 |app (args:Array Operand) (ats:Array Nat)
def comp (E:Env):Op->K
 | .move x=>.plain λfr Z=>(aR fr x).map (·,Z)
 | .assign x=>.plain λfr Z=>(aR fr x).map (·,Z)
 | .pick c a b=>.plain λfr Z=>kA E fr Z c a b
 | .alloc e=>.plain λfr Z=>sY E fr Z e
 | .box e x=>.plain λfr Z=>HZ E fr Z e x
 | .build t parts=>.plain λfr Z=>rB E fr Z t parts
 | .buildSlice t len parts=>.lit t len parts
 | .load t a=>.plain λfr Z=>iH E fr Z t a
 | .store t a x=>.plain λfr Z=>j_ E fr Z t a x
 | .nilCheck x=>.plain λfr Z=>jM E fr Z x
 | .binOp op t x y _=>.plain λfr Z=>eV E fr Z op t x y
 | .unOp op _ x=>.plain λfr Z=>oL E fr Z op x
 | .convert s d x=>.plain λfr Z=>mI E fr Z s d x
 | .makeInterface t x=>.plain λfr Z=>eB E fr Z t x
 | .makeMap t r=>.plain λfr Z=>mH E fr Z t r
 | .makeSlice t l c=>.plain λfr Z=>kB E fr Z t l c
 | .slice t x lo hi mx=>.plain λfr Z=>sX E fr Z t x lo hi mx
 | .fieldAddr t x f=>.plain λfr Z=>iB E fr Z t x f
 | .field t x f=>.plain λfr Z=>rA E fr Z t x f
 | .indexAddr t x i=>.plain λfr Z=>bZ E fr Z t x i
 | .index t x i=>.plain λfr Z=>q_ E fr Z t x i
 | .lookup t x k ok=>.plain λfr Z=>dW E fr Z t x k ok
 | .extract t i=>.plain λfr Z=>cU E fr Z t i
 | .call { callee:=.value f,args,.. }=>.call f args.toList
 | .call { callee:=.builtin .append,args,argTypes }=>.app args argTypes
 |op=>.plain λfr Z=>aS E fr Z op
def kY (E:Env) (ev:yE) (dr:Fz) (op:Op) (fr:Fr) (Z:Sg):Option (V × Sg):=
 match comp E op with
 | .plain f=>f fr Z
 | .call f args=>match aR fr f,eH fr args with
  |some (.fn k first cap),some l=>g_ E ev k (first++l++cap) Z
  |_,_=>no "call"
 | .lit t len parts=>if dr.lits then (Dg E fr t len parts.toList).map (·,Z) else fG E fr Z t len parts
 | .app args ats=>if dr.apps then (vS E fr Z args.toList ats).map (·,Z) else eL E fr Z .append args ats
theorem AG (E:Env) (ev:yE) (dr:Fz) (op:Op) (fr:Fr) (Z:Sg):kY E ev dr op fr Z=lG E ev dr op fr Z:=by
 cases op with
 |call c=>
  obtain⟨callee,args,ats⟩:=c;cases callee with
  |builtin b=>cases b <;> rfl
  |_=>rfl
 |_=>rfl
def cA (ops:Array Oper) (o:Oper) (fr:Fr):Bool:=
 match o.guard with
 |none=>true
 |some (j,want)=>yielded ops fr j==some want
def bL (E:Env) (ev:yE) (dr:Fz) (ops:Array Oper) (o:Oper) (fr:Fr) (Z:Sg):Option (Fr × Sg):=
 if cA ops o fr then
  match kY E ev dr o.op fr Z with
  |some (v,Z)=>some (cT fr o.dst v,Z)
  |none=>no o.pos
 else some (cT fr o.dst .undef,Z)
def gN (E:Env) (ev:yE) (dr:Fz) (ops:Array Oper):List Oper->Fr->Sg->Option (Fr × Sg)
 | [],fr,Z=>some (fr,Z)
 |o::rest,fr,Z=>match bL E ev dr ops o fr Z with
  |some (fr,Z)=>gN E ev dr ops rest fr Z
  |none=>none
def effect (E:Env) (frz:Fz):Op->Bool × Bool
 | .buildSlice ..=>(!frz.lits,!frz.lits)
 | .move _ | .assign _ | .pick .. | .build .. | .nilCheck _ | .binOp .. | .unOp .. | .makeInterface .. | .makeFunc .. | .fieldAddr .. | .field .. | .indexAddr .. | .index .. | .extract ..=>(false,false)
 | .load .. | .convert .. | .slice .. | .lookup ..=>(true,false)
 | .call { callee:=.builtin .len,.. }=>(true,false)
 | .call { callee:=.builtin .min,.. }=>(false,false)
 | .call { callee:=.builtin .max,.. }=>(false,false)
 | .call { callee:=.builtin .append,.. }=>(true,!frz.apps)
 | .call { callee:=.builtin .unsafeSliceData,.. }=>(true,false)
 | .call { callee:=.value (.func f),.. }=>match E.hspec f,E.spec f,E.mode f with
  |none,some _,_=>(true,false)
  |none,none,.eS=>(true,false)
  |_,_,_=>(true,true)
 |_=>(true,true)
def tmpsOf:List Operand->List Nat
 | []=>[]
 | .tmp t::r=>t::tmpsOf r
 |_::r=>tmpsOf r
def qP (ops:Array Oper) (o:Oper):List Nat:=
 tmpsOf o.op.operands.toList++match o.guard with
  |none=>[]
  |some (j,_)=>match (ops[j]?).bind (·.dst) with
   |some d=>[d]
   |none=>[]
def HS (pre:List Nat) (o:Oper):Nat:=
 o.after.toList.foldl (λb e=>if Region.binds .any e then b ||| (1 <<< e.on) ||| pre.getD e.on 0 else b) 0
def yW:List Oper->List Nat->List Nat
 | [],pre=>pre
 |o::rest,pre=>yW rest (pre++[HS pre o])
def pS (E:Env) (frz:Fz) (ops:Array Oper) (o p:Oper):Bool:=
 !((effect E frz o.op).2&&(effect E frz p.op).2) &&
   (match o.dst with | some d=>!(qP ops p).contains d && !(p.dst==some d) | none=>true) &&
   (match p.dst with | some d=>!(qP ops o).contains d | none=>true)
def sA {α:Type} (f:α->α->Bool):List α->List α->Bool
 | [],[]=>true
 |a::x,b::y=>f a b&&sA f x y
 |_,_=>false
def tX:Nat->V->V->Bool
 |0,_,_=>false
 |n+1,a,b=>match a,b with
  | .bool a,.bool b=>a==b
  | .int k a,.int l b=>decide (k=l)&&decide (a=b)
  | .str a,.str b=>seq a b
  | .fP,.fP | .aF,.aF | .bX,.bX | .rC,.rC | .rN,.rN | .undef,.undef=>true
  | .bS g x f,.bS h y e=>g==h&&sA (sA (tX n)) x y&&f==e
  | .cZ g x,.cZ h y=>g==h&&sA (tX n) x y
  | .imp g x,.imp h y=>g==h&&sA (λp q=>tX n p.1 q.1&&tX n p.2 q.2) x y
  | .ref b o,.ref c p=>decide (b=c)&&decide (o=p)
  | .sl b o l none,.sl c p m none=>decide (b=c)&&decide (o=p)&&decide (l=m)
  | .sl b o l (some i),.sl c p m (some j)=>decide (b=c)&&decide (o=p)&&decide (l=m)&&decide (i=j)
  | .mp b,.mp c=>decide (b=c)
  | .fn f x y,.fn g z w=>decide (f=g)&&sA (tX n) x z&&sA (tX n) y w
  | .agg x,.agg y=>sA (tX n) x y
  | .fM x,.fM y=>sA (tX n) x y
  |_,_=>false
def again (E:Env) (ev:yE) (frz:Fz) (ops:Array Oper) (o:Oper) (fr:Fr) (Z Y:Sg):Bool:=
 !cA ops o fr||match kY E ev frz o.op fr Z,kY E ev frz o.op fr Y with
  |some (u,_),some (v,_)=>tX 12 u v
  |_,_=>false
def iL (E:Env) (ev:yE) (frz:Fz) (ops:Array Oper):List Oper->Fr->Sg->Option (List (Fr × Sg))
 | [],fr,Z=>some [(fr,Z)]
 |o::rest,fr,Z=>match bL E ev frz ops o fr Z with
  |some (fr',σ')=>match iL E ev frz ops rest fr' σ' with
   |some l=>some ((fr,Z)::l)
   |none=>none
  |none=>none
def wL:Nat->List Oper->Bool
 |_,[]=>true
 |i,o::rest=>o.after.toList.all (λe=>!Region.binds .any e||decide (e.on<i))&&wL (i+1) rest
def last {α:Type}:List α->Option α
 | []=>none
 | [a]=>some a
 |_::r=>last r
structure D9 where
 i:Nat
 o:Oper
 pre:Nat
 rd:Bool
 wr:Bool
def HI (E:Env) (frz:Fz):Nat->List Oper->List Nat->List D9
 |i,o::rest,p::pre=>{ i,o,pre:=p,rd:=(effect E frz o.op).1,wr:=(effect E frz o.op).2 }::HI E frz (i+1) rest pre
 |_,_,_=>[]
structure Ew where
 i:Nat
 j:Nat
 a:Bool
 b:Bool
def yX (E:Env) (frz:Fz) (ops:Array Oper) (x:D9):List D9->Option (List Ew)
 | []=>some []
 |y::r=>match y.pre.testBit x.i with
  |true=>yX E frz ops x r
  |false=>match pS E frz ops x.o y.o,yX E frz ops x r with
   |true,some l=>match x.wr&&y.rd,x.rd&&y.wr with
    |false,false=>some l
    |a,b=>some ({ i:=x.i,j:=y.i,a,b }::l)
   |_,_=>none
def yZ (E:Env) (frz:Fz) (ops:Array Oper):List D9->Option (List Ew)
 | []=>some []
 |x::r=>match yX E frz ops x r,yZ E frz ops r with
  |some a,some b=>some (a++b)
  |_,_=>none
def cH (E:Env) (frz:Fz) (ops:Array Oper):Option (List Ew):=
 match wL 0 ops.toList with
 |true=>yZ E frz ops (HI E frz 0 ops.toList (yW ops.toList []))
 |false=>none
def iN (E:Env) (ev:yE) (frz:Fz) (ops:Array Oper) (ts:List (Fr × Sg)) (d:Ew):Bool:=
 match ops[d.i]?,ops[d.j]?,ts[d.i]?,ts[d.j]?,ts[d.j+1]? with
 |some x,some y,some p,some q,some r=>(!d.a||again E ev frz ops y q.1 q.2 p.2)&&(!d.b||again E ev frz ops x p.1 p.2 r.2)
 |_,_,_,_,_=>false
def Gn:Bool->List Oper->Bool
 |b,[]=>b
 |b,o::r=>match o.op with
  | .call { callee:=.builtin .append,args,.. }=>match args.toList with
   | .const _::_=>Gn true r
   |_=>false
  |_=>Gn b r
def fJ (E:Env) (ops:Array Oper):Fz:=match decide (64<ops.size) with
 |true=>.lit
 |false=>match Gn false ops.toList with
  |true=>.app
  |false=>match cH E .no ops with
   |some _=>.no
   |none=>match cH E .lit ops with
    |some _=>.lit
    |none=>.app
def cO (E:Env) (ev:yE) (ops:Array Oper) (fr:Fr) (Z:Sg):Option (Fr × Sg):=
 match cH E (fJ E ops) ops with
 |none=>no "draw: plan"
 |some []=>gN E ev (fJ E ops) ops ops.toList fr Z
 |some l=>match iL E ev (fJ E ops) ops ops.toList fr Z with
  |none=>none
  |some ts=>if l.all (iN E ev (fJ E ops) ops ts) then last ts else no "draw"
def ev (E:Env):Nat->yE
 |0,_,_,_=>no "fuel"
 |n+1,c,fr,Z=>
  match c with
  | .skip=>some (.normal,fr,Z)
  | .seq a b=>match ev E n a fr Z with
   |some (.normal,fr,Z)=>ev E n b fr Z
   |r=>r
  | .cond c t e=>match aR fr c with
   |some (.bool true)=>ev E n t fr Z
   |some (.bool false)=>ev E n e fr Z
   |_=>no "cond"
  | .block id c=>match ev E n c fr Z with
   |some (.exit id',fr,Z)=>if id'=id then some (.normal,fr,Z) else some (.exit id',fr,Z)
   |r=>r
  | .loop c=>match ev E n c fr Z with
   |some (.normal,fr,Z)=>ev E n (.loop c) fr Z
   |r=>r
  | .exit id=>some (.exit id,fr,Z)
  | .ret=>some (.ret,fr,Z)
  | .region _ ops draw=>match (if draw then cO E (ev E n) ops fr Z else gN E (ev E n) .no ops ops.toList fr Z) with
   |some (fr,Z)=>some (.normal,fr,Z)
   |none=>none
  |_=>no "code"
def call (E:Env) (n:Nat) (f:Nat) (args:List V):Option V:=
 match E.fn f with
 |none=>none
 |some F=>match enter E (ev E n) F args [] with
  |some (v,σ1)=>cG σ1 E.ty false v
  |none=>none
def sub (g:Bool) (I:Bool->Nat->Prop):Bool->Nat->Prop:=λh k=>I (g&&h) k
def eX:Value->Nat
 | .bool _=>1
 | .int k _=>match k with | .i8=>2 | .i16=>3 | .i32=>4 | .i64=>5 | .u8=>6 | .u16=>7 | .u32=>8 | .u64=>9
 | .string _=>20
 |_=>0
def eP:Value->List Nat
 | .agg a=>99::a.toList.map eX
 |v=>[eX v]
structure Xn (en:Array MapEntry) (clock:Nat):Prop where
 st:MapKept.Stamped en clock
 shape:∀x∈en.toList,∀y∈en.toList,eP x.key=eP y.key
mutual
inductive IR (w:World):(Bool->Nat->Prop)->V->Value->Prop
 |bool {I:Bool->Nat->Prop} (b:Bool):IR w I (.bool b) (.bool b)
 |int {I:Bool->Nat->Prop} (k:IntKind) (n:Int):IR w I (.int k n) (.int k n)
 |str {I:Bool->Nat->Prop} (s:ByteArray):IR w I (.str (bytes s)) (.string s)
 |fP {I:Bool->Nat->Prop}:IR w I .fP (.pointer none)
 |aF {I:Bool->Nat->Prop}:IR w I .aF (.slice none 0 0)
 |bX {I:Bool->Nat->Prop}:IR w I .bX (.map none)
 |rC {I:Bool->Nat->Prop}:IR w I .rC .nilFunc
 |rN {I:Bool->Nat->Prop}:IR w I .rN .nilIface
 |bS {I:Bool->Nat->Prop} (g:Bool) (xs:List (List V)) (full:Bool) (blk off len cap sz:Nat)(hi:I g blk)(hl:len=xs.length)(hc:len<=cap)(hf:full=true->cap=len)
   (hr:eI w (sub g I) sz xs blk off):IR w I (.bS g xs full) (.slice (some ⟨blk,off,none⟩) len cap)
 |emp {I:Bool->Nat->Prop} (g full:Bool) (a:Addr):IR w I (.bS g [] full) (.slice (some a) 0 0)
 |cZ {I:Bool->Nat->Prop} (g:Bool) (cs:List V) (blk off:Nat)(hi:I g blk)(hr:dO w (sub g I) cs blk off):IR w I (.cZ g cs) (.pointer (some ⟨blk,off,none⟩))
 |imp {I:Bool->Nat->Prop} (g:Bool) (es:List (V × V)) (blk:Nat) (entries:Array MapEntry) (clock:Nat) (l:List MapEntry)(hi:I g blk)(hm:w.heap[blk]?=some (.map entries clock))
   (ho:Xn entries clock)(hp:l.Perm entries.toList)(hr:sF w (sub g I) es l):IR w I (.imp g es) (.map (some blk))
 |fn {I:Bool->Nat->Prop} (f:Nat):IR w I (.fn f [] []) (.func (.func f) #[] #[])
inductive dO (w:World):(Bool->Nat->Prop)->List V->Nat->Nat->Prop
 |nil {I:Bool->Nat->Prop}{blk off:Nat}:dO w I [] blk off
 |cons {I:Bool->Nat->Prop} (v:V) (x:Value) (cs:List V) {blk off:Nat}(hc:w.cell? ⟨blk,off,none⟩=some x)(hv:IR w I v x)(hr:dO w I cs blk (off+1)):dO w I (v::cs) blk off
inductive eI (w:World):(Bool->Nat->Prop)->Nat->List (List V)->Nat->Nat->Prop
 |nil {I:Bool->Nat->Prop}{sz blk off:Nat}:eI w I sz [] blk off
 |cons {I:Bool->Nat->Prop}{sz:Nat} (r:List V) (xs:List (List V)) {blk off:Nat}(hl:r.length=sz)(hc:dO w I r blk off)(hr:eI w I sz xs blk (off+sz)):eI w I sz (r::xs) blk off
inductive B1 (w:World):(Bool->Nat->Prop)->List V->List Value->Prop
 |nil {I:Bool->Nat->Prop}:B1 w I [] []
 |cons {I:Bool->Nat->Prop} (v:V) (x:Value) (cs:List V) (xs:List Value)(hv:IR w I v x)(hr:B1 w I cs xs):B1 w I (v::cs) (x::xs)
inductive sG (w:World):(Bool->Nat->Prop)->V->Value->Prop
 |one {I:Bool->Nat->Prop}{v:V}{x:Value}(h:IR w I v x):sG w I v x
 |agg {I:Bool->Nat->Prop} (cs:List V) (xs:List Value)(h:B1 w I cs xs):sG w I (.agg cs) (.agg xs.toArray)
inductive sF (w:World):(Bool->Nat->Prop)->List (V × V)->List MapEntry->Prop
 |nil {I:Bool->Nat->Prop}:sF w I [] []
 |cons {I:Bool->Nat->Prop} (k v:V) (es:List (V × V)) (e:MapEntry) (l:List MapEntry)(hk:sG w I k e.key)(hv:sG w I v e.val)(hr:sF w I es l):sF w I ((k,v)::es) (e::l)
end
theorem cell_of_heap {w w':World}{b o:Nat}(h:w'.heap[b]?=w.heap[b]?):w'.cell? ⟨b,o,none⟩=w.cell? ⟨b,o,none⟩:=by
 simp[World.cell?,h]
def qU (w w':World) (I I':Bool->Nat->Prop):Prop:=∀g k,I g k->I' g k/\w'.heap[k]?=w.heap[k]?
theorem qU.sub {w w':World}{I I':Bool->Nat->Prop}(h:qU w w' I I') (g:Bool):qU w w' (sub g I) (sub g I'):=λ_ k hk=>h _ k hk
mutual
theorem IR.mono {w w':World}{I I':Bool->Nat->Prop}{v:V}{x:Value} (H:qU w w' I I')(h:IR w I v x):IR w' I' v x:=by
 cases h with
 |bool=>exact .bool _
 |int=>exact .int _ _
 |str=>exact .str _
 |fP=>exact .fP
 |aF=>exact .aF
 |bX=>exact .bX
 |rC=>exact .rC
 |rN=>exact .rN
 |fn=>exact .fn _
 |emp g full a=>exact .emp g full a
 |bS g xs full blk off len cap sz hi hl hc hf hr=>exact .bS g xs full blk off len cap sz (H _ _ hi).1 hl hc hf (eI.mono (H.sub g) (λ_=>(H g blk hi).2) hr)
 |cZ g cs blk off hi hr=>exact .cZ g cs blk off (H _ _ hi).1 (dO.mono (H.sub g) (λ_=>(H g blk hi).2) hr)
 |imp g es blk entries clock l hi hm ho hp hr=>exact .imp g es blk entries clock l (H _ _ hi).1 (by rw[(H _ _ hi).2];exact hm) ho hp (sF.mono (H.sub g) hr)
theorem dO.mono {w w':World}{I I':Bool->Nat->Prop}{cs:List V}{blk off:Nat} (H:qU w w' I I')(hb:cs≠[]->w'.heap[blk]?=w.heap[blk]?)(h:dO w I cs blk off):dO w' I' cs blk off:=by
 cases h with
 |nil=>exact .nil
 |cons v x cs hc hv hr=>exact .cons v x cs (by rw[cell_of_heap (hb (by simp))];exact hc) (IR.mono H hv) (dO.mono H (λ_=>hb (by simp)) hr)
theorem eI.mono {w w':World}{I I':Bool->Nat->Prop}{sz:Nat}{xs:List (List V)}{blk off:Nat} (H:qU w w' I I')(hb:xs≠[]->w'.heap[blk]?=w.heap[blk]?)(h:eI w I sz xs blk off):eI w' I' sz xs blk off:=by
 cases h with
 |nil=>exact .nil
 |cons r xs hl hc hr=>exact .cons r xs hl (dO.mono H (λ_=>hb (by simp)) hc) (eI.mono H (λ_=>hb (by simp)) hr)
theorem B1.mono {w w':World}{I I':Bool->Nat->Prop}{cs:List V}{xs:List Value} (H:qU w w' I I')(h:B1 w I cs xs):B1 w' I' cs xs:=by
 cases h with
 |nil=>exact .nil
 |cons v x cs xs hv hr=>exact .cons v x cs xs (IR.mono H hv) (B1.mono H hr)
theorem sG.mono {w w':World}{I I':Bool->Nat->Prop}{v:V}{x:Value} (H:qU w w' I I')(h:sG w I v x):sG w' I' v x:=by
 cases h with
 |one h=>exact .one (IR.mono H h)
 |agg cs xs h=>exact .agg cs xs (B1.mono H h)
theorem sF.mono {w w':World}{I I':Bool->Nat->Prop}{es:List (V × V)}{l:List MapEntry} (H:qU w w' I I')(h:sF w I es l):sF w' I' es l:=by
 cases h with
 |nil=>exact .nil
 |cons k v es e l hk hv hr=>exact .cons k v es e l (sG.mono H hk) (sG.mono H hv) (sF.mono H hr)
end
structure Cx where
 w:World
 Z:Sg
 blk:Nat->Nat
 tot:Nat->Nat
 yD:Nat->Nat
 nJ:Nat->Prop
def O.alive:O->Bool
 | .dead=>false
 |_=>true
def live (Z:Sg) (b:Nat):Prop:=∃o,Z[b]?=some o/\o.alive=true
def Cx.own (c:Cx) (k:Nat):Prop:=∃b,live c.Z b/\c.blk b=k
def Cx.bD (c:Cx) (g:Bool) (k:Nat):Prop:=k<c.w.heap.size/\¬ c.own k/\(g=false->¬ c.nJ k)
mutual
inductive VR (c:Cx):V->Value->Prop
 |inl {v:V}{x:Value}(h:IR c.w c.bD v x):VR c v x
 |ref (b off:Nat)(h:b<c.Z.length):VR c (.ref b off) (.pointer (some ⟨c.blk b,off,none⟩))
 |sl (b off len:Nat) (cap:Option Nat) (cap':Nat)(h:b<c.Z.length)(hl:len<=cap')(hk:∀k,cap=some k->cap'=k)(ht:cap=none->off+cap'*c.yD b=c.tot b) :
   VR c (.sl b off len cap) (.slice (some ⟨c.blk b,off,none⟩) len cap')
 |mp (b:Nat)(h:b<c.Z.length):VR c (.mp b) (.map (some (c.blk b)))
 |fn (f:Nat) (a b:List V) (xs ys:List Value)(ha:fD c a xs)(hb:fD c b ys):VR c (.fn f a b) (.func (.func f) xs.toArray ys.toArray)
 |agg (cs:List V) (xs:List Value)(h:fD c cs xs):VR c (.agg cs) (.agg xs.toArray)
 |fM (cs:List V) (xs:List Value)(h:fD c cs xs):VR c (.fM cs) (.tuple xs.toArray)
 |AV (t:Nat) (v:V) (x:Value)(h:VR c v x):VR c (.AV t v) (.iface t x)
 |undef:VR c .undef undef
inductive fD (c:Cx):List V->List Value->Prop
 |nil:fD c [] []
 |cons (v:V) (x:Value) (cs:List V) (xs:List Value)(hv:VR c v x)(hr:fD c cs xs):fD c (v::cs) (x::xs)
end
structure Ext (c c':Cx):Prop where
 size:c.w.heap.size<=c'.w.heap.size
 keep:∀k,k<c.w.heap.size->¬ c.own k->c'.w.heap[k]?=c.w.heap[k]?/\¬ c'.own k
 len:c.Z.length<=c'.Z.length
 blk:∀b,b<c.Z.length->c'.blk b=c.blk b
 tot:∀b,b<c.Z.length->c'.tot b=c.tot b
 yD:∀b,b<c.Z.length->c'.yD b=c.yD b
 nJ:c'.nJ=c.nJ
 os:c'.w.os=c.w.os
 tape:c'.w.tape=c.w.tape
 output:c'.w.output=c.w.output
theorem Ext.refl (c:Cx):Ext c c:=⟨OF _,λ_ _ h=>⟨rfl,h⟩,OF _,λ_ _=>rfl,λ_ _=>rfl,λ_ _=>rfl,rfl,rfl,rfl,rfl⟩
theorem Ext.trans {a b c:Cx}(h:Ext a b) (k:Ext b c):Ext a c:=
 ⟨fh h.size k.size,λi hi ho=>by
   obtain⟨e,ho'⟩:=h.keep i hi ho;obtain⟨e',ho''⟩:=k.keep i (iu hi h.size) ho';exact⟨e'.trans e,ho''⟩,
  fh h.len k.len,λi hi=>(k.blk i (iu hi h.len)).trans (h.blk i hi),λi hi=>(k.tot i (iu hi h.len)).trans (h.tot i hi),
  λi hi=>(k.yD i (iu hi h.len)).trans (h.yD i hi),k.nJ.trans h.nJ,k.os.trans h.os,k.tape.trans h.tape,k.output.trans h.output⟩
theorem Ext.wider {c c':Cx}(h:Ext c c'):qU c.w c'.w c.bD c'.bD:=λg k hk=>by
 obtain⟨h1,h2,h3⟩:=hk;obtain⟨e,ho⟩:=h.keep k h1 h2;exact⟨⟨iu h1 h.size,ho,λhg=>by rw[h.nJ];exact h3 hg⟩,e⟩
mutual
theorem VR.mono {c c':Cx}{v:V}{x:Value} (H:Ext c c')(h:VR c v x):VR c' v x:=by
 cases h with
 |inl h=>exact .inl (IR.mono H.wider h)
 |ref b off h=>rw[<- H.blk b h];exact .ref b off (iu h H.len)
 |sl b off len cap cap' h hl hk ht=>rw[<- H.blk b h];exact .sl b off len cap cap' (iu h H.len) hl hk (λe=>by rw[H.yD b h,H.tot b h];exact ht e)
 |mp b h=>rw[<- H.blk b h];exact .mp b (iu h H.len)
 |fn f a b xs ys ha hb=>exact .fn f a b xs ys (fD.mono H ha) (fD.mono H hb)
 |agg cs xs h=>exact .agg cs xs (fD.mono H h)
 |fM cs xs h=>exact .fM cs xs (fD.mono H h)
 |AV t v x h=>exact .AV t v x (VR.mono H h)
 |undef=>exact .undef
theorem fD.mono {c c':Cx}{v:List V}{x:List Value} (H:Ext c c')(h:fD c v x):fD c' v x:=by
 cases h with
 |nil=>exact .nil
 |cons v x cs xs hv hr=>exact .cons v x cs xs (VR.mono H hv) (fD.mono H hr)
end
inductive iW (c:Cx):List (V × V)->List MapEntry->Prop
 |nil:iW c [] []
 |cons (k v:V) (es:List (V × V)) (e:MapEntry) (l:List MapEntry)(hk:sG c.w c.bD k e.key)(hv:VR c v e.val)(hr:iW c es l):iW c ((k,v)::es) (e::l)
theorem iW.mono {c c':Cx}{es:List (V × V)}{l:List MapEntry} (H:Ext c c')(h:iW c es l):iW c' es l:=by
 induction h with
 |nil=>exact .nil
 |cons k v es e l hk hv hr ih=>exact .cons k v es e l (sG.mono H.wider hk) (VR.mono H hv) ih
def uI (E:Env) (c:Cx) (b:Nat):O->Prop
 | .dead=>True
 | .cells t cs ex=>∃arr,c.w.heap[c.blk b]?=some (.cells arr t (0,0))/\arr.size=c.tot b/\(∃i,E.ty t=some i/\c.yD b=i.size)/\cs.length<=arr.size/\(ex=true->cs.length=arr.size)/\cs.all V.aY=true /\
   ∀(j:Nat) (v:V),cs[j]?=some v->∃x,arr[j]?=some x/\VR c v x
 | .map es=>∃entries clock,c.w.heap[c.blk b]?=some (.map entries clock)/\Xn entries clock/\∃l:List MapEntry,l.Perm entries.toList/\iW c es l
 | .Jk s pos=>∃bs,bytes bs=s/\c.w.heap[c.blk b]?=some (.stringIter bs pos)
 | .s_ left cur=>(left=[]/\cur=none/\c.w.heap[c.blk b]?=some (.mapIter none 0 #[] 0))\/∃(g:Bool) (m:Nat) (en:Array MapEntry) (clock:Nat) (seen:Array Nat) (l:List MapEntry),
   c.w.heap[c.blk b]?=some (.mapIter (some m) clock seen clock)/\c.bD g m/\c.w.heap[m]?=some (.map en clock)/\Xn en clock/\l.Perm (en.toList.filter λe=>!seen.contains e.born)/\iW c left l /\
   ∀e,cur=some e->∃x∈en.toList,(∃seen':Array Nat,seen=seen'.push x.born)/\sG c.w c.bD e.1 x.key/\VR c e.2 x.val
theorem uI.mono {E:Env}{c c':Cx}{b:Nat}{o:O} (H:Ext c c')(hb:b<c.Z.length)(hk:c'.w.heap[c.blk b]?=c.w.heap[c.blk b]?)(h:uI E c b o):uI E c' b o:=by
 have e:=H.blk b hb;cases o with
 |dead=>exact True.intro
 |cells t cs ex=>
  obtain⟨arr,h1,h2,h3,h4,h5,h7,h6⟩:=h;exact⟨arr,by rw[e,hk];exact h1,by rw[H.tot b hb];exact h2,by rw[H.yD b hb];exact h3,h4,h5,h7,λj v hj=>let ⟨x,a,r⟩:=h6 j v hj; ⟨x,a,r.mono H⟩⟩
 |map es=>
  obtain⟨en,cl,h1,ho,l,hp,h2⟩:=h;exact⟨en,cl,by rw[e,hk];exact h1,ho,l,hp,h2.mono H⟩
 |Jk s pos=>
  obtain⟨bs,h1,h2⟩:=h;exact⟨bs,h1,by rw[e,hk];exact h2⟩
 |s_ left cur=>
  rcases h with⟨h1,h0,h2⟩ | ⟨g,m,en,cl,seen,l,h1,h2,h3,h4,h5,h6,h7⟩
  ·exact .inl ⟨h1,h0,by rw[e,hk];exact h2⟩
  ·obtain⟨k1,k2⟩:=H.wider g m h2
   exact .inr ⟨g,m,en,cl,seen,l,by rw[e,hk];exact h1,k1,by rw[k2];exact h3,h4,h5,h6.mono H,λe he=>by
    obtain⟨x,g1,g2,g3,g4⟩:=h7 e he;exact⟨x,g1,g2,sG.mono H.wider g3,g4.mono H⟩⟩
structure SR (E:Env) (c:Cx):Prop where
 inj:∀b b',live c.Z b->live c.Z b'->c.blk b=c.blk b'->b=b'
 obj:∀b o,c.Z[b]?=some o->uI E c b o
 nJ:∀b,live c.Z b->¬ c.nJ (c.blk b)
 iX:∀k,c.nJ k->k<c.w.heap.size
 gl:∀k p,E.gl k=some p->∃o,c.w.heap[k]?=some o/\p o/\¬ c.own k
theorem p_ {E:Env}{c c':Cx}(h:Ext c c')(hg:∀k p,E.gl k=some p->∃o,c.w.heap[k]?=some o/\p o/\¬ c.own k):∀k p,E.gl k=some p->∃o,c'.w.heap[k]?=some o/\p o/\¬ c'.own k:=λk p hk=>by
 obtain⟨o,h1,hp,h2⟩:=hg k p hk
 have hlt:k<c.w.heap.size:=by
  rcases cj k c.w.heap.size with g | g
  ·exact g
  ·rw[Array.getElem?_eq_none g]at h1;cases h1
 obtain⟨h3,h4⟩:=h.keep k hlt h2;exact⟨o,h3.trans h1,hp,h4⟩
theorem dX {Z:Sg}{b:Nat}(h:live Z b):b<Z.length:=by
 obtain⟨o,ho,_⟩:=h;exact (AI.1 ho).1
theorem jC {w:World}{k:Nat}{o:Obj}(h:w.heap[k]?=some o):k<w.heap.size:=by
 rcases cj k w.heap.size with g | g
 ·exact g
 ·rw[Array.getElem?_eq_none g]at h;cases h
theorem SR.lt {E:Env}{c:Cx}(h:SR E c) {b:Nat}(hl:live c.Z b):c.blk b<c.w.heap.size:=by
 obtain⟨o,ho,hd⟩:=hl;have:=h.obj b o ho;cases o with
 |dead=>cases hd
 |cells t cs ex=>obtain⟨arr,h1,_⟩:=this;exact jC h1
 |map es=>obtain⟨en,cl,h1,_⟩:=this;exact jC h1
 |Jk s pos=>obtain⟨bs,_,h1⟩:=this;exact jC h1
 |s_ left cur=>
  rcases this with⟨_,_,h1⟩ | ⟨_,_,_,_,_,_,h1,_⟩
  ·exact jC h1
  ·exact jC h1
theorem SR.uX {E:Env}{c:Cx}(h:SR E c) {k:Nat}(hk:c.own k):k<c.w.heap.size:=by
 obtain⟨b,hl,rfl⟩:=hk;exact h.lt hl
def Cx.alloc (c : Cx) (ob : Obj) (o : O) (n z : Nat) : Cx :=
  { c with w := c.w.alloc ob, Z := c.Z ++ [o], blk := fun b => if b = c.Z.length then c.w.heap.size else c.blk b,
           tot := fun b => if b = c.Z.length then n else c.tot b, yD := fun b => if b = c.Z.length then z else c.yD b }
theorem gZ {Z:Sg}{o:O}{b:Nat}(h:live (Z++[o]) b):live Z b\/(b=Z.length/\o.alive=true):=by
 obtain⟨o',ho,hd⟩:=h;rw[List.getElem?_append]at ho;split at ho
 ·exact .inl ⟨o',ho,hd⟩
 ·rename_i hb;rcases cj (b-Z.length) 1 with h1 | h1
  ·have:b=Z.length:=by omega
   subst this;simp at ho;subst ho;exact .inr ⟨rfl,hd⟩
  ·rw[j8 (by simpa using h1)]at ho;cases ho
theorem Cx.gB {E:Env}{c:Cx}(h:SR E c) (ob:Obj) (o:O) (n z:Nat):Ext c (c.alloc ob o n z) where
 size:=by simp[Cx.alloc]
 keep:=λk hk ho=>by
  refine⟨Go.RowKit.Below.heap_alloc _ _ _ hk,λ⟨b,hl,hb⟩=>?_⟩;rcases gZ hl with hl | ⟨rfl,_⟩
  ·refine ho ⟨b,hl,?_⟩;have:=dX hl;simpa [Cx.alloc,Nat.ne_of_lt this]using hb
  ·simp[Cx.alloc]at hb;omega
 len:=by simp[Cx.alloc]
 blk:=λb hb=>by simp[Cx.alloc,Nat.ne_of_lt hb]
 tot:=λb hb=>by simp[Cx.alloc,Nat.ne_of_lt hb]
 yD:=λb hb=>by simp[Cx.alloc,Nat.ne_of_lt hb]
 nJ:=rfl
 os:=rfl
 tape:=rfl
 output:=rfl
theorem Cx.r_ {E:Env}{c:Cx}(h:SR E c) (ob:Obj) (o:O) (n z:Nat)(ho:uI E (c.alloc ob o n z) c.Z.length o):SR E (c.alloc ob o n z) where
 inj:=λb b' hl hl' e=>by
  rcases gZ hl with hl | ⟨rfl,_⟩ <;> rcases gZ hl' with hl' | ⟨rfl,_⟩
  ·have:=dX hl;have:=dX hl';refine h.inj b b' hl hl' ?_;simpa [Cx.alloc,Nat.ne_of_lt (dX hl),Nat.ne_of_lt (dX hl')]using e
  ·have:=h.lt hl;simp[Cx.alloc,Nat.ne_of_lt (dX hl)]at e;omega
  ·have:=h.lt hl';simp[Cx.alloc,Nat.ne_of_lt (dX hl')]at e;omega
  ·rfl
 obj:=λb o' hb=>by
  by_cases hlt:b<c.Z.length
  ·have hb':c.Z[b]?=some o':=by simpa [Cx.alloc,List.getElem?_append_left hlt]using hb
   by_cases hl:live c.Z b
   ·refine (h.obj b o' hb').mono (Cx.gB h ob o n z) hlt ?_;exact Go.RowKit.Below.heap_alloc _ _ _ (h.lt hl)
   ·cases o' with
    |dead=>exact True.intro
    |_=>exact (hl ⟨_,hb',rfl⟩).elim
  ·have:b=c.Z.length:=by
    have:=(AI.1 hb).1;simp[Cx.alloc]at this;omega
   subst this;simp[Cx.alloc]at hb;subst hb;exact ho
 nJ:=λb hl=>by
  rcases gZ hl with hl | ⟨rfl,_⟩
  ·have:=h.nJ b hl;simpa [Cx.alloc,Nat.ne_of_lt (dX hl)]using this
  ·intro ha;have:=h.iX _ ha;simp[Cx.alloc]at this
 iX:=λk hk=>by
  have:=h.iX k hk;simp[Cx.alloc];omega
 gl:=p_ (Cx.gB h ob o n z) h.gl
def Cx.put (c:Cx) (b:Nat) (ob:Obj) (o:O):Cx:=
 { c with w:={ c.w with heap:=c.w.heap.setIfInBounds (c.blk b) ob },Z:=c.Z.set b o }
theorem zQ {Z:Sg}{o:O}{b b':Nat}(hb:live Z b)(h:live (Z.set b o) b'):live Z b':=by
 obtain⟨o',ho,hd⟩:=h;by_cases e:b=b'
 ·subst e;exact hb
 ·rw[No e]at ho;exact⟨o',ho,hd⟩
theorem Cx.mG {c:Cx}{b:Nat}(hl:live c.Z b) (ob:Obj) (o:O):Ext c (c.put b ob o) where
 size:=by simp[Cx.put]
 keep:=λk hk ho=>by
  refine⟨?_,λ⟨b',hl',hb⟩=>ho ⟨b',zQ hl hl',hb⟩⟩;have:c.blk b≠k:=λe=>ho ⟨b,hl,e⟩;simp[Cx.put,this]
 len:=by simp[Cx.put]
 blk:=λ_ _=>rfl
 tot:=λ_ _=>rfl
 yD:=λ_ _=>rfl
 nJ:=rfl
 os:=rfl
 tape:=rfl
 output:=rfl
theorem Cx.uT {E:Env}{c:Cx}(h:SR E c) {b:Nat}(hl:live c.Z b) (ob:Obj) (o:O)(ho:uI E (c.put b ob o) b o):SR E (c.put b ob o) where
 inj:=λb1 b2 h1 h2 e=>h.inj b1 b2 (zQ hl h1) (zQ hl h2) e
 obj:=λb' o' hb=>by
  by_cases e:b=b'
  ·subst e;have:b<c.Z.length:=dX hl;simp[Cx.put,this]at hb;subst hb;exact ho
  ·have hb':c.Z[b']?=some o':=by simpa [Cx.put,List.getElem?_set_ne e]using hb
   by_cases hl':live c.Z b'
   ·refine (h.obj b' o' hb').mono (Cx.mG hl ob o) (dX hl') ?_;have:c.blk b≠c.blk b':=λe'=>e (h.inj b b' hl hl' e');simp[Cx.put,this]
   ·cases o' with
    |dead=>exact True.intro
    |_=>exact (hl' ⟨_,hb',rfl⟩).elim
 nJ:=λb' hl'=>h.nJ b' (zQ hl hl')
 iX:=λk hk=>by
  have:=h.iX k hk;simpa [Cx.put]using this
 gl:=p_ (Cx.mG hl ob o) h.gl
def Cx.kill (c:Cx) (b:Nat):Cx:={ c with Z:=c.Z.set b .dead }
theorem gA {Z:Sg}{b b':Nat}(h:live (Z.set b .dead) b'):live Z b'/\b'≠b:=by
 obtain⟨o',ho,hd⟩:=h;by_cases e:b=b'
 ·subst e;rw[List.getElem?_set]at ho;split at ho
  ·split at ho
   ·injection ho with ho;subst ho;cases hd
   ·cases ho
  ·exact absurd rfl (by assumption)
 ·rw[No e]at ho;exact⟨⟨o',ho,hd⟩,λx=>e x.symm⟩
theorem Cx.vF (c:Cx) (b:Nat):Ext c (c.kill b) where
 size:=OF _
 keep:=λ_ _ ho=>⟨rfl,λ⟨b',hl',hb⟩=>ho ⟨b',(gA hl').1,hb⟩⟩
 len:=by simp[Cx.kill]
 blk:=λ_ _=>rfl
 tot:=λ_ _=>rfl
 yD:=λ_ _=>rfl
 nJ:=rfl
 os:=rfl
 tape:=rfl
 output:=rfl
theorem Cx.L0 {E:Env}{c:Cx}(h:SR E c) (b:Nat):SR E (c.kill b) where
 inj:=λb1 b2 h1 h2 e=>h.inj b1 b2 (gA h1).1 (gA h2).1 e
 obj:=λb' o' hb=>by
  by_cases hl:live (c.Z.set b .dead) b'
  ·have hb':c.Z[b']?=some o':=by
    have:=(gA hl).2;rw[<- No (λe=>this e.symm)];exact hb
   exact (h.obj b' o' hb').mono (c.vF b) (dX (gA hl).1) rfl
  ·cases o' with
   |dead=>exact True.intro
   |_=>exact (hl ⟨_,hb,rfl⟩).elim
 nJ:=λb' hl'=>h.nJ b' (gA hl').1
 iX:=h.iX
 gl:=p_ (c.vF b) h.gl
def Cx.drew (c:Cx):Cx:={ c with w:={ c.w with drawn:=c.w.drawn+1 } }
theorem Cx.kG (c:Cx):Ext c c.drew:=⟨OF _,λ_ _ h=>⟨rfl,h⟩,OF _,λ_ _=>rfl,λ_ _=>rfl,λ_ _=>rfl,rfl,rfl,rfl,rfl⟩
theorem Cx.wM {E:Env}{c:Cx}(h:SR E c):SR E c.drew where
 inj:=h.inj
 obj:=λb o hb=>by
  by_cases hl:live c.Z b
  ·exact (h.obj b o hb).mono c.kG (dX hl) rfl
  ·cases o with
   |dead=>exact True.intro
   |_=>exact (hl ⟨_,hb,rfl⟩).elim
 nJ:=h.nJ
 iX:=h.iX
 gl:=p_ c.kG h.gl
section
section inv
variable {c:Cx}{x:Value}
theorem VR.gH {b:Bool}(h:VR c (.bool b) x):x=.bool b:=by cases h with | inl h=>cases h;rfl
theorem VR.eD {k:IntKind}{n:Int}(h:VR c (.int k n) x):x=.int k n:=by cases h with | inl h=>cases h;rfl
theorem VR.eU {s:List Nat}(h:VR c (.str s) x):∃b,x=.string b/\bytes b=s:=by cases h with | inl h=>cases h;exact⟨_,rfl,rfl⟩
theorem VR.pV (h:VR c .fP x):x=.pointer none:=by cases h with | inl h=>cases h;rfl
theorem VR.gY (h:VR c .aF x):x=.slice none 0 0:=by cases h with | inl h=>cases h;rfl
theorem VR.mJ (h:VR c .bX x):x=.map none:=by cases h with | inl h=>cases h;rfl
theorem VR.zI (h:VR c .rC x):x=.nilFunc:=by cases h with | inl h=>cases h;rfl
theorem VR.zH (h:VR c .rN x):x=.nilIface:=by cases h with | inl h=>cases h;rfl
theorem VR.iK {b off:Nat}(h:VR c (.ref b off) x):x=.pointer (some ⟨c.blk b,off,none⟩)/\b<c.Z.length:=by
 cases h with | inl h=>cases h | ref b off h=>exact⟨rfl,h⟩
theorem VR.xS {b:Nat}(h:VR c (.mp b) x):x=.map (some (c.blk b))/\b<c.Z.length:=by
 cases h with | inl h=>cases h | mp b h=>exact⟨rfl,h⟩
theorem VR.mD {b off len:Nat}{cap:Option Nat}(h:VR c (.sl b off len cap) x) :
  ∃cap',x=.slice (some ⟨c.blk b,off,none⟩) len cap'/\b<c.Z.length/\len<=cap'/\(∀k,cap=some k->cap'=k)/\(cap=none->off+cap'*c.yD b=c.tot b):=by
 cases h with | inl h=>cases h | sl b off len cap cap' h hl hk ht=>exact⟨cap',rfl,h,hl,hk,ht⟩
theorem VR.nP {g:Bool}{xs:List (List V)}{full:Bool}(h:VR c (.bS g xs full) x) :
  ∃blk off sp cap sz,x=.slice (some ⟨blk,off,sp⟩) xs.length cap/\((sp=none/\c.bD g blk)\/(xs=[]/\cap=0))/\xs.length<=cap/\(full=true->cap=xs.length)/\eI c.w (sub g c.bD) sz xs blk off:=by
 cases h with | inl h=>cases h with
  |bS _ _ _ blk off len cap sz hi hl hc hf hr=>subst hl;exact⟨blk,off,none,cap,sz,rfl,.inl ⟨rfl,hi⟩,hc,hf,hr⟩
  |emp _ _ a=>exact⟨a.block,a.off,a.spot,0,0,rfl,.inr ⟨rfl,rfl⟩,OF _,λ_=>rfl,.nil⟩
theorem VR.zR {g:Bool}{cs:List V}(h:VR c (.cZ g cs) x):∃blk off,x=.pointer (some ⟨blk,off,none⟩)/\c.bD g blk/\dO c.w (sub g c.bD) cs blk off:=by
 cases h with | inl h=>cases h with | cZ _ _ blk off hi hr=>exact⟨blk,off,rfl,hi,hr⟩
theorem VR.tH {g:Bool}{es:List (V × V)}(h:VR c (.imp g es) x) :
  ∃blk entries clock l,x=.map (some blk)/\c.bD g blk/\c.w.heap[blk]?=some (.map entries clock)/\Xn entries clock/\l.Perm entries.toList/\sF c.w (sub g c.bD) es l:=by
 cases h with | inl h=>cases h with | imp _ _ blk entries clock l hi hm ho hp hr=>exact⟨blk,entries,clock,l,rfl,hi,hm,ho,hp,hr⟩
theorem VR.tV {cs:List V}(h:VR c (.agg cs) x):∃xs:List Value,x=.agg xs.toArray/\fD c cs xs:=by
 cases h with | inl h=>cases h | agg cs xs h=>exact⟨xs,rfl,h⟩
theorem VR.F6 {cs:List V}(h:VR c (.fM cs) x):∃xs:List Value,x=.tuple xs.toArray/\fD c cs xs:=by
 cases h with | inl h=>cases h | fM cs xs h=>exact⟨xs,rfl,h⟩
theorem VR.GH {t:Nat}{v:V}(h:VR c (.AV t v) x):∃y,x=.iface t y/\VR c v y:=by
 cases h with | inl h=>cases h | AV t v y h=>exact⟨y,rfl,h⟩
theorem VR.AX {f:Nat}{a b:List V}(h:VR c (.fn f a b) x):∃xs ys:List Value,x=.func (.func f) xs.toArray ys.toArray/\fD c a xs/\fD c b ys:=by
 cases h with
 |inl h=>cases h;exact⟨[],[],rfl,.nil,.nil⟩
 |fn f a b xs ys ha hb=>exact⟨xs,ys,rfl,ha,hb⟩
end inv
theorem fD.len {c:Cx}{cs:List V}{xs:List Value}(h:fD c cs xs):cs.length=xs.length:=by
 induction cs generalizing xs with
 |nil=>cases h;rfl
 |cons v cs ih=>cases h with | cons v x cs xs hv hr=>simp[ih hr]
theorem fD.get {c:Cx}{cs:List V}{xs:List Value}(h:fD c cs xs):∀(j:Nat) (v:V),cs[j]?=some v->∃x,xs[j]?=some x/\VR c v x:=by
 induction cs generalizing xs with
 |nil=>intro j v hj;simp at hj
 |cons v cs ih=>
  cases h with | cons v x cs xs hv hr=>
  intro j u hj;cases j with
  |zero=>simp at hj;subst hj;exact⟨x,rfl,hv⟩
  |succ j=>exact ih hr j u (by simpa using hj)
theorem fD.qZ {c:Cx}:∀{cs:List V}{xs:List Value},cs.length=xs.length->(∀(j:Nat) (v:V),cs[j]?=some v->∃x,xs[j]?=some x/\VR c v x)->fD c cs xs
 | [],[],_,_=>.nil
 |v::cs,x::xs,hl,h=>by
  obtain⟨y,hy,hv⟩:=h 0 v rfl;simp at hy;subst hy;exact .cons v x cs xs hv (fD.qZ (by simpa using hl) λj u hj=>by simpa using h (j+1) u (by simpa using hj))
theorem fD.append {c:Cx}{a b:List V}{xs ys:List Value}(h:fD c a xs) (k:fD c b ys):fD c (a++b) (xs++ys):=by
 induction a generalizing xs with
 |nil=>cases h;exact k
 |cons v a ih=>cases h with | cons v x cs xs hv hr=>exact .cons _ _ _ _ hv (ih hr)
theorem fD.take {c:Cx}{a:List V}{xs:List Value}(h:fD c a xs) (n:Nat):fD c (a.take n) (xs.take n):=by
 induction a generalizing xs n with
 |nil=>cases h;simp;exact .nil
 |cons v a ih=>cases h with | cons v x cs xs hv hr=>cases n with
  |zero=>simp;exact .nil
  |succ n=>simp;exact .cons _ _ _ _ hv (ih hr n)
theorem fD.drop {c:Cx}{a:List V}{xs:List Value}(h:fD c a xs) (n:Nat):fD c (a.drop n) (xs.drop n):=by
 induction a generalizing xs n with
 |nil=>cases h;simp;exact .nil
 |cons v a ih=>cases h with | cons v x cs xs hv hr=>cases n with
  |zero=>simp;exact .cons _ _ _ _ hv hr
  |succ n=>simp;exact ih hr n
theorem fD.set {c:Cx}{a:List V}{xs:List Value}(h:fD c a xs) {v:V}{x:Value}(hv:VR c v x) (n:Nat):fD c (a.set n v) (xs.set n x):=by
 induction a generalizing xs n with
 |nil=>cases h;simp;exact .nil
 |cons u a ih=>cases h with | cons u y cs xs hu hr=>cases n with
  |zero=>simp;exact .cons _ _ _ _ hv hr
  |succ n=>simp;exact .cons _ _ _ _ hu (ih hr n)
theorem fD.replicate (c:Cx) (n:Nat):fD c (List.replicate n .undef) (List.replicate n Go.undef):=by
 induction n with
 |zero=>exact .nil
 |succ n ih=>exact .cons _ _ _ _ .undef ih
theorem VR.cells {c:Cx}{v:V}{x:Value}(h:VR c v x):fD c v.cells x.cells.toList:=by
 have one:∀{v:V}{x:Value},VR c v x->fD c [v] [x]:=λh=>.cons _ _ _ _ h .nil;cases h with
 |agg cs xs h=>simpa [V.cells,Value.cells]using h
 |inl h=>have h':=h;cases h <;> exact one (.inl h')
 |ref b off h=>exact one (.ref b off h)
 |sl b off len cap cap' h hl hk ht=>exact one (.sl b off len cap cap' h hl hk ht)
 |mp b h=>exact one (.mp b h)
 |fn f a b xs ys ha hb=>exact one (.fn f a b xs ys ha hb)
 |fM cs xs h=>exact one (.fM cs xs h)
 |AV t v x h=>exact one (.AV t v x h)
 |undef=>exact one .undef
theorem VR.aY {c:Cx}{v:V}{x:Value}(h:VR c v x)(hk:v.aY=true):x.oneCell'=true:=by
 cases h with
 |agg cs xs h=>cases hk
 |fM cs xs h=>cases hk
 |undef=>cases hk
 |inl h=>cases h <;> rfl
 |_=>rfl
theorem fD.lH {c:Cx}{cs:List V}{xs:List Value}(h:fD c cs xs)(hk:cs.all V.aY=true):∀x∈xs,x.oneCell'=true:=by
 induction cs generalizing xs with
 |nil=>cases h;simp
 |cons v cs ih=>
  cases h with | cons v x cs xs hv hr=>
  simp only[j9,ai]at hk;intro y hy;rcases IT.1 hy with rfl | hy
  ·exact hv.aY hk.1
  ·exact ih hr hk.2 y hy
theorem IR.aY {w:World}{I:Bool->Nat->Prop}{v:V}{x:Value}(h:IR w I v x):v.aY=true:=by cases h <;> rfl
theorem B1.lH {w:World}{I:Bool->Nat->Prop}{cs:List V}{xs:List Value}(h:B1 w I cs xs):cs.all V.aY=true:=by
 induction cs generalizing xs with
 |nil=>rfl
 |cons v cs ih=>cases h with | cons v x cs xs hv hr=>simp[hv.aY,ih hr]
theorem sG.lH {w:World}{I:Bool->Nat->Prop}{v:V}{x:Value}(h:sG w I v x):v.cells.all V.aY=true:=by
 cases h with
 |one h=>cases h <;> rfl
 |agg cs xs h=>exact h.lH
theorem Du {c:Cx}{g h:Bool}{k:Nat}(hk:c.bD (g&&h) k):c.bD h k:=⟨hk.1,hk.2.1,λe=>hk.2.2 (by simp[e])⟩
theorem vX (c:Cx) (g:Bool):qU c.w c.w (sub g c.bD) c.bD:=λ_ _ hk=>⟨Du hk,rfl⟩
theorem B1.vrs {c:Cx}{cs:List V}{xs:List Value}(h:B1 c.w c.bD cs xs):fD c cs xs:=by
 induction cs generalizing xs with
 |nil=>cases h;exact .nil
 |cons v cs ih=>cases h with | cons v x cs xs hv hr=>exact .cons _ _ _ _ (.inl hv) (ih hr)
theorem sG.vr {c:Cx}{v:V}{x:Value}(h:sG c.w c.bD v x):VR c v x:=by
 cases h with
 |one h=>exact .inl h
 |agg cs xs h=>exact .agg cs xs h.vrs
theorem dO.get {w:World}{I:Bool->Nat->Prop}{cs:List V}{blk off:Nat}(h:dO w I cs blk off):∀(j:Nat) (v:V),cs[j]?=some v->∃x,w.cell? ⟨blk,off+j,none⟩=some x/\IR w I v x:=by
 induction cs generalizing off with
 |nil=>intro j v hj;simp at hj
 |cons v cs ih=>
  cases h with | cons v x cs hc hv hr=>
  intro j u hj;cases j with
  |zero=>simp at hj;subst hj;exact⟨x,hc,hv⟩
  |succ j=>
   obtain⟨y,hy,hu⟩:=ih hr j u (by simpa using hj);exact⟨y,by rw[show off+(j+1)=off+1+j by omega];exact hy,hu⟩
theorem dO.qZ {w:World}{I:Bool->Nat->Prop}:∀{cs:List V}{blk off:Nat},(∀(j:Nat) (v:V),cs[j]?=some v->∃x,w.cell? ⟨blk,off+j,none⟩=some x/\IR w I v x)->dO w I cs blk off
 | [],_,_,_=>.nil
 |v::cs,blk,off,h=>by
  obtain⟨x,hx,hv⟩:=h 0 v rfl
  exact .cons v x cs hx hv (dO.qZ λj u hj=>by
   obtain⟨y,hy,hu⟩:=h (j+1) u (by simpa using hj);exact⟨y,by rw[show off+1+j=off+(j+1) by omega];exact hy,hu⟩)
theorem dO.drop {w:World}{I:Bool->Nat->Prop}{cs:List V}{blk off:Nat}(h:dO w I cs blk off) (n:Nat):dO w I (cs.drop n) blk (off+n):=
 .qZ λj v hj=>by
  obtain⟨x,hx,hv⟩:=h.get (n+j) v (by simpa using hj);exact⟨x,by rw[show off+n+j=off+(n+j) by omega];exact hx,hv⟩
theorem dO.vals {w:World}{I:Bool->Nat->Prop}{cs:List V}{blk off:Nat}(h:dO w I cs blk off) :
  ∃xs:List Value,B1 w I cs xs/\∀(j:Nat) (x:Value),xs[j]?=some x->w.cell? ⟨blk,off+j,none⟩=some x:=by
 induction cs generalizing off with
 |nil=>exact⟨[],.nil,by intro j x hj;simp at hj⟩
 |cons v cs ih=>
  cases h with | cons v x cs hc hv hr=>
  obtain⟨xs,h1,h2⟩:=ih hr;refine⟨x::xs,.cons v x cs xs hv h1,λj y hj=>?_⟩;cases j with
  |zero=>simp at hj;subst hj;exact hc
  |succ j=>rw[show off+(j+1)=off+1+j by omega];exact h2 j y (by simpa using hj)
theorem uI.iS {E:Env}{c:Cx}{b t:Nat}{cs:List V}{ex:Bool}(h:uI E c b (.cells t cs ex)) :
  ∃arr,c.w.heap[c.blk b]?=some (.cells arr t (0,0))/\arr.size=c.tot b/\(∃i,E.ty t=some i/\c.yD b=i.size)/\cs.length<=arr.size/\(ex=true->cs.length=arr.size) /\
   fD c cs (arr.toList.take cs.length)/\cs.all V.aY=true:=by
 obtain⟨arr,h1,h2,h3,h4,h5,h7,h6⟩:=h;refine⟨arr,h1,h2,h3,h4,h5,fD.qZ (by simp;omega) (λj v hj=>?_),h7⟩;obtain⟨x,hx,hv⟩:=h6 j v hj;have:j<cs.length:=(AI.1 hj).1;exact⟨x,by simp[this,hx],hv⟩
theorem uI.vP {E:Env}{c:Cx}{b t:Nat}{cs:List V}{ex:Bool}{arr:Array Value}(h1:c.w.heap[c.blk b]?=some (.cells arr t (0,0)))(h2:arr.size=c.tot b)(h3:∃i,E.ty t=some i/\c.yD b=i.size)
  (h5:ex=true->cs.length=arr.size) {xs ys:List Value}(ha:arr.toList=xs++ys)(hv:fD c cs xs)(hok:cs.all V.aY=true):uI E c b (.cells t cs ex):=by
 have hl:=hv.len;have hs:arr.size=xs.length+ys.length:=by rw[<- jg,ha];simp
 refine⟨arr,h1,h2,h3,by omega,h5,hok,λj v hj=>?_⟩;obtain⟨x,hx,hr⟩:=hv.get j v hj;refine⟨x,?_,hr⟩;have:j<xs.length:=(AI.1 hx).1;rw[<- fq,ha,b8 this];exact hx
def pC (d:TypeDesc):Kd->Prop
 | .bool=>d=.bool
 | .int k=>d=.int k
 | .str=>d=.string
 | .ptr e=>d=.pointer e
 | .sl e=>d=.slice e
 | .arr n e=>d=.array n e
 | .map k e=>d=.map k e
 | .jT fs=>∃a:Array Field,d=.struct a/\a.toList.map (λf=>(f.offset,f.type))=fs
 | .func=>∃p r v,d=.func p r v
 | .AV=>∃m,d=.interface m
 | .other=>d=.unsafePointer
structure wT (P:Program) (t:Nat) (i:Ty):Prop where
 info:∃inf,P.info? t=some inf/\inf.size=i.size/\inf.bytes=i.bytes/\∃z,inf.zero=some z/\z.cells.size=i.size/\∀w I,sG w I i.zero z
 kd:∃d,P.underlying t=some d/\pC d i.kd
 Xt:i.zero.cells.length=i.size
theorem run_typeInfo {P:Program}{t:Nat}{inf:TypeInfo}(h:P.info? t=some inf) (w:World):(typeInfo t).run P w=.ok inf w:=by simp[typeInfo,h]
theorem wT.size {P:Program}{t:Nat}{i:Ty}(h:wT P t i) (w:World):(sizeOf t).run P w=.ok i.size w:=by
 obtain⟨inf,h1,h2,_⟩:=h.info;simp[sizeOf,run_typeInfo h1,h2]
theorem wT.zero {P:Program}{t:Nat}{i:Ty}(h:wT P t i):∃z,(∀w,(zeroValue t).run P w=.ok z w)/\(∀w I,sG w I i.zero z)/\z.cells.size=i.size:=by
 obtain⟨inf,h1,_,_,z,h4,h6,h5⟩:=h.info;exact⟨z,λw=>by simp[zeroValue,run_typeInfo h1,h4],h5,h6⟩
theorem wT.isAgg {P:Program}{t:Nat}{i:Ty}(h:wT P t i) (w:World):(Go.isAgg t).run P w=.ok (Ax.isAgg i.kd) w:=by
 obtain⟨d,h1,h2⟩:=h.kd;simp only[Go.isAgg,Sem.run_bind,run_underlying h1,Result.andThen_ok]
 cases hk:i.kd <;> rw[hk]at h2 <;> simp only[pC]at h2 <;> first
  |(subst h2;rfl)
  |(obtain⟨a,rfl,_⟩:=h2;rfl)
  |(obtain⟨a,b,c,rfl⟩:=h2;rfl)
  |(obtain⟨a,rfl⟩:=h2;rfl)
theorem u_ {c:Cx}{x:Value}{v:V}(h:bF x=some v):IR c.w c.bD v x:=by
 cases x <;> simp only[bF]at h <;> first
  |(cases h;done)
  |(injection h with h;subst h;first | exact .bool _ | exact .int _ _ | exact .str _ | exact .rC | exact .rN)
  |skip
 ·rename_i a;cases a <;> simp at h;subst h;exact .fP
 ·rename_i a l k;cases a <;> cases l <;> cases k <;> simp at h;subst h;exact .aF
 ·rename_i a;cases a <;> simp at h;subst h;exact .bX
theorem uZ {c:Cx}:∀{xs:List Value}{l:List V},ofValues xs=some l->fD c l xs
 | [],l,h=>by simp[ofValues]at h;subst h;exact .nil
 |x::r,l,h=>by
  simp only[ofValues]at h;split at h
  ·rename_i v l' h1 h2;injection h with h;subst h;exact .cons _ _ _ _ (.inl (u_ h1)) (uZ h2)
  ·cases h
theorem Ej {c:Cx}{x:Value}{v:V}(h:ofValue x=some v):VR c v x:=by
 unfold ofValue at h;split at h
 ·rename_i cs;split at h
  ·rename_i l hl;injection h with h;subst h;have:=VR.agg l cs.toList (uZ (c:=c) hl);simpa using this
  ·cases h
 ·exact .inl (u_ h)
theorem pc {a b:Nat}(h:Nat.beq a b=true):a=b:=jf h
theorem pg {a b:Nat}(h:Nat.beq a b=false):a≠b:=Nat.ne_of_beq_eq_false h
theorem I1 {a b:Nat}(h:Nat.blt a b=true):a<b:=by simpa [Nat.blt_eq]using h
theorem A6 {a b:Nat}(h:Nat.blt a b=false):¬ a<b:=λg=>by
 have:Nat.blt a b=true:=by simpa [Nat.blt_eq]using g
 rw[h]at this;cases this
theorem FT.vJ (t:Nat):FT.leaf.get t=.undef:=rfl
theorem FT.qA (v:V) (l r:FT) (t:Nat):(FT.node v l r).get t=match Nat.beq t 0 with
  |true=>v
  |false=>match Nat.beq (t % 2) 1 with
   |true=>l.get (t / 2)
   |false=>r.get (t / 2-1):=rfl
theorem FT.Pp (v:V) (k t:Nat):FT.put v (k+1) .leaf t=match Nat.beq t 0 with
  |true=>.node v .leaf .leaf
  |false=>match Nat.beq (t % 2) 1 with
   |true=>.node .undef (FT.put v k .leaf (t / 2)) .leaf
   |false=>.node .undef .leaf (FT.put v k .leaf (t / 2-1)):=rfl
theorem FT.Po (v u:V) (l r:FT) (k t:Nat):FT.put v (k+1) (.node u l r) t=match Nat.beq t 0 with
  |true=>.node v l r
  |false=>match Nat.beq (t % 2) 1 with
   |true=>.node u (FT.put v k l (t / 2)) r
   |false=>.node u l (FT.put v k r (t / 2-1)):=rfl
theorem FT.aH (v:V):∀(k:Nat) (f:FT) (t t':Nat),t<k->(FT.put v k f t).get t'=if t'=t then v else f.get t'
 |0,f,t,t',h=>by omega
 |k+1,f,t,t',h=>by
  have ih:=FT.aH v k
  have e0:∀u,(FT.node .undef .leaf .leaf).get u=(FT.leaf).get u:=by
   intro u;simp only[FT.qA,FT.vJ]
   repeat' split
   all_goals rfl
  cases f with
  |leaf=>
   rw[<- e0 t'];simp only[FT.Pp];cases h0:Nat.beq t 0 with
   |true=>
    have:=pc h0;subst this;simp only[FT.qA,FT.vJ];cases h1:Nat.beq t' 0 with
    |true=>have:=pc h1;simp[this]
    |false=>have:=pg h1;simp[this]
   |false=>
    have g0:=pg h0;cases h2:Nat.beq (t % 2) 1 with
    |true=>
     have g2:=pc h2;simp only[FT.qA,FT.vJ];cases h1:Nat.beq t' 0 with
     |true=>have:=pc h1;subst this;simp[g0.symm]
     |false=>
      cases h3:Nat.beq (t' % 2) 1 with
      |true=>
       have g3:=pc h3;dsimp only;rw[ih _ _ _ (by omega)];by_cases e:t'=t
       ·subst e;simp
       ·rw[an e,an (by omega)];rfl
      |false=>
       have g3:=pg h3;have e:t'≠t:=by omega
       simp[e]
    |false=>
     have g2:=pg h2;simp only[FT.qA,FT.vJ];cases h1:Nat.beq t' 0 with
     |true=>have:=pc h1;subst this;simp[g0.symm]
     |false=>
      have g1:=pg h1;cases h3:Nat.beq (t' % 2) 1 with
      |true=>
       have g3:=pc h3;have e:t'≠t:=by omega
       simp[e]
      |false=>
       have g3:=pg h3;dsimp only;rw[ih _ _ _ (by omega)];by_cases e:t'=t
       ·subst e;simp
       ·rw[an e,an (by omega)];rfl
  |node u l r=>
   simp only[FT.Po];cases h0:Nat.beq t 0 with
   |true=>
    have:=pc h0;subst this;simp only[FT.qA];cases h1:Nat.beq t' 0 with
    |true=>have:=pc h1;simp[this]
    |false=>have:=pg h1;simp[this]
   |false=>
    have g0:=pg h0;cases h2:Nat.beq (t % 2) 1 with
    |true=>
     have g2:=pc h2;simp only[FT.qA];cases h1:Nat.beq t' 0 with
     |true=>have:=pc h1;subst this;simp[g0.symm]
     |false=>
      cases h3:Nat.beq (t' % 2) 1 with
      |true=>
       have g3:=pc h3;dsimp only;rw[ih _ _ _ (by omega)];by_cases e:t'=t
       ·subst e;simp
       ·rw[an e,an (by omega)]
      |false=>
       have g3:=pg h3;have e:t'≠t:=by omega
       simp[e]
    |false=>
     have g2:=pg h2;simp only[FT.qA];cases h1:Nat.beq t' 0 with
     |true=>have:=pc h1;subst this;simp[g0.symm]
     |false=>
      have g1:=pg h1;cases h3:Nat.beq (t' % 2) 1 with
      |true=>
       have g3:=pc h3;have e:t'≠t:=by omega
       simp[e]
      |false=>
       have g3:=pg h3;dsimp only;rw[ih _ _ _ (by omega)];by_cases e:t'=t
       ·subst e;simp
       ·rw[an e,an (by omega)]
theorem Fr.aZ (fr:Fr) (d:Nat) (v:V):(fr.put d v).n=fr.n:=by
 unfold Fr.put;split <;> rfl
theorem Fr.get_some {fr:Fr}{t:Nat}{v:V}(h:fr.get t=some v):t<fr.n:=by
 unfold Fr.get at h;split at h
 ·rename_i g;exact I1 g
 ·cases h
theorem Fr.aH (fr:Fr) (d:Nat) (v:V) (t:Nat):(fr.put d v).get t=if t=d/\d<fr.n then some v else fr.get t:=by
 unfold Fr.put;cases h:Nat.blt d fr.n with
 |true=>
  have g:=I1 h;simp only[Fr.get];cases h':Nat.blt t fr.n with
  |true=>
   dsimp only;rw[FT.aH v _ _ _ _ (by omega)];by_cases e:t=d
   ·rw[az e,az ⟨e,g⟩]
   ·rw[an e,an (λx=>e x.1)]
  |false=>
   have g':=A6 h';dsimp only;rw[an (λx=>g' (by rw[x.1];exact x.2))]
 |false=>
  have g:=A6 h;rw[an (λx=>g x.2)]
def FR (c:Cx) (fr:Fr) (tmps:Array Value):Prop:=fr.n=tmps.size/\∀t v,fr.get t=some v->∃x,tmps[t]?=some x/\VR c v x
theorem FR.get {c:Cx}{fr:Fr}{tmps:Array Value}(h:FR c fr tmps) {t:Nat}{v:V}(hv:fr.get t=some v):VR c v (tmps.getD t Go.undef):=by
 obtain⟨x,hx,hr⟩:=h.2 t v hv;rw[mz,hx];exact hr
theorem FR.mono {c c':Cx} (H:Ext c c') {fr:Fr}{tmps:Array Value}(h:FR c fr tmps):FR c' fr tmps:=
 ⟨h.1,λt v hv=>let ⟨x,hx,hr⟩:=h.2 t v hv; ⟨x,hx,hr.mono H⟩⟩
theorem FR.set {c:Cx}{fr:Fr}{tmps:Array Value}(h:FR c fr tmps) {v:V}{x:Value}(hv:VR c v x) (d:Nat):FR c (fr.put d v) (tmps.setIfInBounds d x):=by
 refine⟨by rw[Fr.aZ,h.1];simp,λt u hu=>?_⟩;rw[Fr.aH]at hu;split at hu
 ·rename_i e;injection hu with hu;subst hu;obtain⟨rfl,hlt⟩:=e;rw[h.1]at hlt;exact⟨x,by simp[hlt],hv⟩
 ·rename_i e;obtain⟨y,hy,hr⟩:=h.2 t u hu;refine⟨y,?_,hr⟩;have hlt:=Fr.get_some hu;rw[ja];split
  ·rename_i e';subst e';exact (e ⟨rfl,hlt⟩).elim
  ·exact hy
theorem FR.fill {c:Cx}:∀{vs:List V}{xs:List Value}(h:fD c vs xs) {fr:Fr}{tmps:Array Value} (i:Nat),FR c fr tmps->i+vs.length<=tmps.size ->
  FR c (fr.fill i vs) (tmps.toList.take i++xs++tmps.toList.drop (i+xs.length)).toArray
 | [],xs,h,fr,tmps,i,hf,hl=>by
  cases h;simpa [Fr.fill]using hf
 |v::vs,xs,h,fr,tmps,i,hf,hl=>by
  cases h with | cons _ x _ xs hv hr=>
  simp only[Fr.fill];simp only[af]at hl;have hf':=hf.set hv i;have:=FR.fill hr (i+1) hf' (by simp;omega)
  have e:((tmps.setIfInBounds i x).toList.take (i+1)++xs++(tmps.setIfInBounds i x).toList.drop (i+1+xs.length))=(tmps.toList.take i++(x::xs)++tmps.toList.drop (i+(x::xs).length)):=by
   have hlt:i<tmps.toList.length:=by simp;omega
   rw[Array.toList_setIfInBounds,List.take_set,List.drop_set]
   have e1:(tmps.toList.take (i+1)).set i x=tmps.toList.take i++[x]:=by
    have hm:min i tmps.size=i:=by simp at hlt;omega
    rw[List.take_succ_eq_append_getElem hlt,o6 _ _ (by simp;omega)];simp[hm]
   rw[e1,az (by omega)];simp[Nat.add_assoc,Nat.add_comm 1]
  rw[e]at this;exact this
theorem FR.init {c:Cx}{n:Nat}{vs:List V}{xs:List Value}(h:fD c vs xs) {fr:Fr}(hi:Fr.init n vs=some fr):FR c fr (xs.toArray++Array.replicate (n-xs.length) Go.undef):=by
 unfold Fr.init at hi;split at hi
 case h_2=>cases hi
 rename_i hle;have hle':vs.length<=n:=jq hle;injection hi with hi;subst hi
 have h0:FR c ⟨n,.leaf⟩ (Array.replicate n Go.undef):=by
  refine⟨by simp,λt v hv=>?_⟩;have hlt:=Fr.get_some hv;unfold Fr.get at hv;split at hv
  ·injection hv with hv;subst hv;exact⟨Go.undef,by simp at hlt;simp[hlt],.undef⟩
  ·cases hv
 have:=FR.fill h 0 h0 (by simp;omega)
 have e:((Array.replicate n Go.undef).toList.take 0++xs++(Array.replicate n Go.undef).toList.drop (0+xs.length)).toArray=xs.toArray++Array.replicate (n-xs.length) Go.undef:=by
  apply pq;simp
 rw[e]at this;exact this
theorem aK {c:Cx}{fr:Fr}{a:Act}(h:FR c fr a.tmps) {o:Operand}{v:V}(he:aR fr o=some v):VR c v (a.eval o):=by
 cases o with
 |tmp t=>exact FR.get h he
 |const x=>exact Ej he
 |global g=>cases he
 |func f=>simp only[aR]at he;injection he with he;subst he;exact .inl (.fn f)
theorem jE {c:Cx}{fr:Fr}{a:Act}(h:FR c fr a.tmps):∀{os:List Operand}{vs:List V},eH fr os=some vs->fD c vs (os.map a.eval)
 | [],vs,he=>by simp[eH]at he;subst he;exact .nil
 |o::os,vs,he=>by
  simp only[eH]at he;split at he
  ·rename_i v l h1 h2;injection he with he;subst he;exact .cons _ _ _ _ (aK h h1) (jE h h2)
  ·cases he
end
section
inductive Sc:List Kd->List V->List Value->Prop
 |nil:Sc [] [] []
 |bool (b:Bool) (sh:List Kd) (vs:List V) (xs:List Value)(h:Sc sh vs xs):Sc (.bool::sh) (.bool b::vs) (.bool b::xs)
 |int (k:IntKind) (n:Int) (sh:List Kd) (vs:List V) (xs:List Value)(h:Sc sh vs xs):Sc (.int k::sh) (.int k n::vs) (.int k n::xs)
 |str (s:ByteArray) (sh:List Kd) (vs:List V) (xs:List Value)(h:Sc sh vs xs):Sc (.str::sh) (.str (bytes s)::vs) (.string s::xs)
structure jH (P:Program) (t:Nat) (sh:List Kd):Prop where
 eq:∀w as bs xs ys b,eqs sh as bs=some b->Sc sh as xs->Sc sh bs ys->(Op.equal t (.agg xs.toArray) (.agg ys.toArray)).run P w=.ok b w
 guard:∀w op x y xs ys as bs,Sc sh as xs->Sc sh bs ys->(eqGuard op t x y (.agg xs.toArray) (.agg ys.toArray)).run P w=.ok () w
 key:∀w e as xs,Sc sh as xs->(Instr.checkKey e 10000 t (.agg xs.toArray)).run P w=.ok () w
 jT:∃a,P.underlying t=some (.struct a)
structure cB (P:Program) (E:Env):Prop where
 ty:∀t i,E.ty t=some i->wT P t i
 eqs:∀t sh,E.eqs t=some sh->jH P t sh
 Eb:∀t,E.Eb t=true->liesAt P P.depth t 1 0 t 1=true
def Good (E:Env) (c:Cx) (r:Result Next) (v:V) (σ':Sg):Prop:=
 ∃(c':Cx) (x:Value),(r=.ok (.value x) c'.w\/(r=.ok .skip c'.w/\x=Go.undef))/\c'.Z=σ'/\Ext c c'/\SR E c'/\VR c' v x
theorem Good.same {E:Env}{c:Cx}{r:Result Next}{v:V}{x:Value}(hs:SR E c)(hr:r=.ok (.value x) c.w)(hv:VR c v x):Good E c r v c.Z:=
 ⟨c,x,.inl hr,rfl,Ext.refl c,hs,hv⟩
theorem nR {w:World}{k o:Nat}{arr:Array Value}{t:Nat}{fr:Nat × Nat}(h:w.heap[k]?=some (.cells arr t fr)):w.cell? ⟨k,o,none⟩=arr[o]?:=by
 simp[World.cell?,h]
theorem Bk {P:Program}{t:Nat}{i:Ty}(h:wT P t i) (a:Addr) (w:World) :
  (loadVar t a).run P w=if Ax.isAgg i.kd=true then ((loadCells a i.size).run P w).andThen λcs w=>.ok (.agg cs) w else (load a).run P w:=by
 unfold loadVar;simp only[Sem.run_bind,h.isAgg,Result.andThen_ok];cases Ax.isAgg i.kd <;> simp[h.size]
theorem jV {P:Program}{w:World}{k o n:Nat}{xs:List Value}(hl:xs.length=n)(h:∀(j:Nat) (x:Value),xs[j]?=some x->w.cell? ⟨k,o+j,none⟩=some x) :
  (loadCells ⟨k,o,none⟩ n).run P w=.ok xs.toArray w:=by
 subst hl;exact run_loadCells_list w _ xs λj v hj=>by rw[Addr.add_lit];exact h j v hj
section
variable {P:Program}{E:Env}{c:Cx}
theorem De (he:cB P E)(hs:SR E c) {t:Nat}{av v:V}{ax:Value}(h:loadAt E c.Z t av=some v)(hv:VR c av ax) :
  ∃x,(Instr.loadAt t ax).run P c.w=.ok x c.w/\VR c v x:=by
 unfold loadAt at h;split at h
 ·cases h
 ·rename_i i hi;have ht:=he.ty t i hi;split at h
  ·rename_i b off;obtain⟨rfl,hb⟩:=hv.iK;split at h
   ·rename_i u cs ex hob;obtain⟨arr,h1,h2,h3,h4,h5,h6,_⟩:=(hs.obj b _ hob).iS;simp only[Instr.loadAt,Instr.sureAddr,Sem.run_bind,Sem.run_pure,Result.andThen_ok,Bk ht];split at h
    ·rename_i hag;rw[az hag];split at h
     ·rename_i hle;injection h with h;subst h;have hl:((arr.toList.drop off).take i.size).length=i.size:=by simp;omega
      rw[jV hl (λj x hj=>by
       rw[nR h1];have hj':j<i.size:=by have:=(AI.1 hj).1;omega
       simp only[j7,hj',bf,mc,fq]at hj;exact hj)]
      refine⟨_,rfl,.agg _ _ ?_⟩;have:=(h6.drop off).take i.size
      have e:((arr.toList.take cs.length).drop off).take i.size=(arr.toList.drop off).take i.size:=by
       rw[List.drop_take,nq,ju (by omega)]
      rwa [e]at this
     ·cases h
    ·rename_i hag;rw[an hag];obtain⟨x,hx,hr⟩:=h6.get off v h;have hlt:off<cs.length:=(AI.1 h).1;have hx':arr[off]?=some x:=by simpa [getElem?_take,hlt]using hx
     exact⟨x,by simp[run_load,nR h1,hx'],hr⟩
   ·cases h
  ·rename_i g cs;obtain⟨blk,off,rfl,hi',hc⟩:=hv.zR;obtain⟨xs,hxs,hcell⟩:=hc.vals;have hV:fD c cs xs:=(hxs.mono (vX c g)).vrs;simp only[Instr.loadAt,Instr.sureAddr,Sem.run_bind,Sem.run_pure,Result.andThen_ok,Bk ht];split at h
   ·rename_i hag;rw[az hag];split at h
    ·rename_i hle;injection h with h;subst h;have hl:(xs.take i.size).length=i.size:=by have:=hV.len;simp;omega
     rw[jV hl (λj x hj=>hcell j x (by
      have hj':j<i.size:=by have:=(AI.1 hj).1;omega
      simpa [getElem?_take,hj']using hj))]
     exact⟨_,rfl,.agg _ _ (hV.take _)⟩
    ·cases h
   ·rename_i hag;rw[an hag];have h0:cs[0]?=some v:=by cases cs <;> simp_all
    obtain⟨x,hx,hr⟩:=hV.get 0 v h0;have:=hcell 0 x hx;exact⟨x,by simp only[lg]at this;simp[run_load,this],hr⟩
  ·cases h
theorem wB {w:World}{g:Nat}{arr new:Array Value}{t:Nat}{fr:Nat × Nat}(h:w.heap[g]?=some (.cells arr t fr)) :
  w.setRow g new={ w with heap:=w.heap.setIfInBounds g (.cells new t fr) }:=by
 have:(w.setRow g new).heap=w.heap.setIfInBounds g (.cells new t fr):=by
  apply Array.ext_getElem?;intro k;by_cases e:g=k
  ·subst e;rw[setRow_heap w g arr new t fr h];have:=jC h;simp[this]
  ·rw[setRow_other w g k new (λx=>e x.symm)];simp[e]
 cases w;simp only[World.setRow]at this ⊢;simp only[this]
theorem Pv {cs vs:List V}{off:Nat}(h:cs.all V.aY=true) (k:vs.all V.aY=true):(setCells cs off vs).all V.aY=true:=by
 simp only[setCells,kz,ai,ez]at *;exact⟨⟨λx hx=>h x (ji hx),k⟩,λx hx=>h x (List.mem_of_mem_drop hx)⟩
theorem AE (hs:SR E c) {b t:Nat}{cs:List V}{ex:Bool}(hob:c.Z[b]?=some (.cells t cs ex)) {off:Nat}{vs:List V}{xs:List Value}
  (hv:fD c vs xs)(h1:vs.all V.aY=true)(hl:off+vs.length<=cs.length) :
  ∃c',(storeCells ⟨c.blk b,off,none⟩ xs 0).run P c.w=.ok () c'.w/\c'.Z=c.Z.set b (.cells t (setCells cs off vs) ex)/\Ext c c'/\SR E c':=by
 obtain⟨arr,g1,g2,g3,g4,g5,g6,g7⟩:=(hs.obj b _ hob).iS;have hlv:live c.Z b:=⟨_,hob,rfl⟩;have hlen:=hv.len;have hlc:=g6.len;have hrun:=run_storeCells_at (P:=P) (c.blk b) off t xs 0 arr c.w g1 (by omega) (hv.lH h1);rw[wB g1]at hrun;refine⟨c.put b (.cells (arr.toList.take (off+0)++xs++arr.toList.drop (off+0+xs.length)).toArray t (0,0)) (.cells t (setCells cs off vs) ex),hrun,rfl,Cx.mG hlv _ _,Cx.uT hs hlv _ _ ?_⟩;have hlt:=jC g1;have hext:=Cx.mG hlv (.cells (arr.toList.take (off+0)++xs++arr.toList.drop (off+0+xs.length)).toArray t (0,0)) (.cells t (setCells cs off vs) ex);refine uI.vP (arr:=(arr.toList.take (off+0)++xs++arr.toList.drop (off+0+xs.length)).toArray) (xs:=arr.toList.take off++xs++(arr.toList.take cs.length).drop (off+xs.length)) (ys:=arr.toList.drop cs.length) ?_ ?_ g3 ?_ ?_ ?_ ?_
 ·simp[Cx.put,hlt]
 ·simp[Cx.put];omega
 ·intro e;have:=g5 e;simp[setCells];omega
 ·simp only[lg,cw];congr 2;have e1:arr.toList.drop (off+xs.length)=(arr.toList.take cs.length++arr.toList.drop cs.length).drop (off+xs.length):=by rw[List.take_append_drop]
  rw[e1,List.drop_append_of_le_length (by simp;omega)]
 ·have e2:(arr.toList.take cs.length).take off=arr.toList.take off:=by rw[nq,ju (by omega)]
  have:=((g6.take off).append hv).append (g6.drop (off+vs.length));rw[e2,hlen]at this;have:=fD.mono hext this;simpa [setCells,hlen]using this
 ·exact Pv g7 h1
theorem Hu (he:cB P E)(hs:SR E c) {t:Nat}{av v:V}{ax x:Value}{σ':Sg}(h:storeAt E c.Z t av v=some σ')(ha:VR c av ax)(hv:VR c v x) :
  ∃c',(Instr.storeAt t ax x).run P c.w=.ok () c'.w/\c'.Z=σ'/\Ext c c'/\SR E c':=by
 unfold storeAt at h;split at h
 ·rename_i i b off hi;have ht:=he.ty t i hi;obtain⟨rfl,hb⟩:=ha.iK;split at h
  ·rename_i u cs ex hob;split at h
   ·rename_i hc;injection h with h;subst h;simp only[ai,gr,aa]at hc;obtain⟨c',r1,r2,r3,r4⟩:=AE (P:=P) hs hob hv.cells hc.1.2 (off:=off) (by omega);refine⟨c',?_,r2,r3,r4⟩;have hsz:x.cells.size=i.size:=by have:=hv.cells.len;simp at this;omega
    simp[Instr.storeAt,Instr.sureAddr,storeVar,ht.size,hsz,r1]
   ·cases h
  ·cases h
 ·cases h
theorem AM (hs:SR E c) {t:Nat}{i:Ty}(hi:E.ty t=some i) {cs:List V}{xs:Array Value}(hv:fD c cs xs.toList)(hok:cs.all V.aY=true) :
  ∃c',c'.w={ c.w with heap:=c.w.heap.push (.cells xs t (0,0)) }/\c'.Z=c.Z++[.cells t cs true]/\Ext c c'/\SR E c'/\c'.blk c.Z.length=c.w.heap.size/\c'.tot c.Z.length=xs.size/\c'.yD c.Z.length=i.size:=by
 refine⟨c.alloc (.cells xs t (0,0)) (.cells t cs true) xs.size i.size,rfl,rfl,Cx.gB hs _ _ _ _,Cx.r_ hs _ _ _ _ ?_,by simp[Cx.alloc],by simp[Cx.alloc],by simp[Cx.alloc]⟩;have hl:=hv.len;refine uI.vP (arr:=xs) (xs:=xs.toList) (ys:=[]) ?_ (by simp[Cx.alloc]) ⟨i,hi,by simp[Cx.alloc]⟩ (λ_=>by simpa using hl) (by simp) (fD.mono (Cx.gB hs _ _ _ _) hv) hok;show (c.w.heap.push _)[if c.Z.length=c.Z.length then _ else _]?=_;simp
def gI (E:Env) (c:Cx) (r:Result Value) (v:V) (σ':Sg):Prop:=
 ∃(c':Cx) (x:Value),r=.ok x c'.w/\c'.Z=σ'/\Ext c c'/\SR E c'/\VR c' v x
theorem gI.same {r:Result Value}{v:V}{x:Value}(hs:SR E c)(hr:r=.ok x c.w)(hv:VR c v x):gI E c r v c.Z:=
 ⟨c,x,hr,rfl,Ext.refl c,hs,hv⟩
theorem I7 (he:cB P E)(hs:SR E c) {t:Nat}{i:Ty}(hi:E.ty t=some i) :
  gI E c ((Instr.alloc t true (.tuple #[])).run P c.w) (.ref c.Z.length 0) (c.Z++[.cells t i.zero.cells true]):=by
 have ht:=he.ty t i hi;obtain⟨z,hz,hr,_⟩:=ht.zero;have hv:VR c i.zero z:=(hr _ _).vr;obtain⟨c',h1,h2,h3,h4,h5,h6,h7⟩:=AM hs hi (xs:=z.cells) hv.cells (hr c.w c.bD).lH;refine⟨c',.pointer (some ⟨c.w.heap.size,0,none⟩),?_,h2,h3,h4,?_⟩
 ·simp[Instr.alloc,hz,newVar,newRow,h1]
 ·rw[<- h5];exact .ref _ _ (by rw[h2];simp)
theorem NR (hs:SR E c) {t:Nat}{i:Ty}(hi:E.ty t=some i) {v:V}{x:Value}(hv:VR c v x)(hok:v.cells.all V.aY=true) :
  gI E c ((Instr.box t x).run P c.w) (.ref c.Z.length 0) (c.Z++[.cells t v.cells true]):=by
 obtain⟨c',h1,h2,h3,h4,h5,h6,h7⟩:=AM hs hi (xs:=x.cells) hv.cells hok;refine⟨c',.pointer (some ⟨c.w.heap.size,0,none⟩),?_,h2,h3,h4,?_⟩
 ·simp[Instr.box,newVar,newRow,h1]
 ·rw[<- h5];exact .ref _ _ (by rw[h2];simp)
theorem IF:∀(xs:List Value) (k off:Nat) (cs:Array Value),off+k+xs.length<=cs.size ->
  ((xs.zipIdx k).foldl (λcs (p:Value × Nat)=>cs.setIfInBounds (off+p.2) p.1) cs).toList=cs.toList.take (off+k)++xs++cs.toList.drop (off+k+xs.length)
 | [],k,off,cs,h=>by simp
 |x::xs,k,off,cs,h=>by
  simp only[List.zipIdx_cons,jm];simp only[af]at h;rw[IF xs (k+1) off (cs.setIfInBounds (off+k) x) (by simp;omega)];have e:=list_seg_step cs.toList (off+k) x xs (by simp;omega);simpa [Array.toList_setIfInBounds,Nat.add_assoc]using e
inductive PR (c:Cx):List (Nat × V)->List (Nat × Value)->Prop
 |nil:PR c [] []
 |cons (n:Nat) (v:V) (x:Value) (ps:List (Nat × V)) (qs:List (Nat × Value))(hv:VR c v x)(hr:PR c ps qs):PR c ((n,v)::ps) ((n,x)::qs)
theorem tN (place:Nat->Option (Nat × Nat)):∀{ps:List (Nat × V)}{qs:List (Nat × Value)}{cells cells':List V}{arr:Array Value},PR c ps qs->fD c cells arr.toList->fill place cells ps=some cells' ->
  ∃arr',Instr.fill place arr qs=some arr'/\fD c cells' arr'.toList/\arr'.size=arr.size
 |_,_,cells,cells',arr,.nil,hv,h=>by
  simp only[fill]at h;injection h with h;subst h;exact⟨arr,rfl,hv,rfl⟩
 |_,_,cells,cells',arr,.cons n v x ps qs hvx hr,hv,h=>by
  simp only[fill]at h;split at h
  ·cases h
  ·rename_i off size hp;split at h
   ·cases h
   ·rename_i hc;simp only[fl,aa,qm,Bool.not_eq_true,Bool.not_eq_false']at hc;obtain⟨⟨g1,g2⟩,g3⟩:=hc;have hlen:=hv.len;have hcl:=hvx.cells.len;simp only[jg]at hlen hcl;have hfold:=IF x.cells.toList 0 off arr (by simp;omega)
    have hstep:fD c (setCells cells off v.cells) (x.cells.zipIdx.foldl (λcs (p:Value × Nat)=>cs.setIfInBounds (off+p.2) p.1) arr).toList:=by
     have e:(x.cells.zipIdx.foldl (λcs (p:Value × Nat)=>cs.setIfInBounds (off+p.2) p.1) arr).toList=arr.toList.take off++x.cells.toList++arr.toList.drop (off+x.cells.toList.length):=by
      rw[<- Array.foldl_toList,Array.toList_zipIdx];simpa using hfold
     rw[e];unfold setCells;have hd:=hv.drop (off+v.cells.length);rw[show off+x.cells.toList.length=off+v.cells.length by simp;omega];exact ((hv.take off).append hvx.cells).append hd
    obtain⟨arr',r1,r2,r3⟩:=tN place hr hstep h;refine⟨arr',?_,r2,?_⟩
    ·simp only[Instr.fill,hp];rw[an (by simp;omega)];exact r1
    ·rw[r3]
     have:=au List.length (show (x.cells.zipIdx.foldl (λcs (p:Value × Nat)=>cs.setIfInBounds (off+p.2) p.1) arr).toList=arr.toList.take off++x.cells.toList++arr.toList.drop (off+x.cells.toList.length) by
      rw[<- Array.foldl_toList,Array.toList_zipIdx];simpa using hfold)
     simp only[jg,By,bw,qi]at this;omega
theorem oS {fr:Fr}{a:Act}(h:FR c fr a.tmps):∀{os:List (Nat × Operand)}{vs:List (Nat × V)},lN fr os=some vs->PR c vs (os.map λ(i,x)=>(i,a.eval x))
 | [],vs,he=>by simp[lN]at he;subst he;exact .nil
 |(i,o)::os,vs,he=>by
  simp only[lN]at he;split at he
  ·rename_i v l h1 h2;injection he with he;subst he;exact .cons _ _ _ _ _ (aK h h1) (oS h h2)
  ·cases he
theorem Bq (he:cB P E):∀(fs:List Field) (w:World),(∀f∈fs,(E.ty f.type).isSome=true) ->
  (fs.mapM λf=>(do pure (f.offset,<- sizeOf f.type):Sem (Nat × Nat))).run P w=.ok (fs.map λf=>(f.offset,((E.ty f.type).map Ty.size).getD 0)) w
 | [],w,_=>by simp
 |f::fs,w,h=>by
  obtain⟨i,hi⟩:=jn.1 (h f (by simp));have:=Bq he fs w (λg hg=>h g (by simp[hg]));simp only[List.mapM_cons,Sem.run_bind,(he.ty _ _ hi).size,Result.andThen_ok,Sem.run_pure,this];simp[hi]
theorem IZ (he:cB P E)(hs:SR E c) {t:Nat}{i:Ty}(hi:E.ty t=some i) {fs:List (Nat × Nat)}(hk:i.kd=.jT fs) {ps:List (Nat × V)}{qs:Array (Nat × Value)}(hp:PR c ps qs.toList)
  (hall:fs.all (λf=>(E.ty f.2).isSome)=true) {cs:List V}
  (h:fill (placeOf E fs) i.zero.cells ps=some cs) :
  gI E c ((Instr.build t qs).run P c.w) (.agg cs) c.Z:=by
 have ht:=he.ty t i hi;obtain⟨z,hz,hr,_⟩:=ht.zero;have hv:VR c i.zero z:=(hr _ _).vr;obtain⟨d,hd,hkd⟩:=ht.kd;rw[hk]at hkd;obtain⟨a,rfl,hfs⟩:=hkd
 have hplaces:(a.mapM λf=>(do pure (f.offset,<- sizeOf f.type):Sem (Nat × Nat))).run P c.w=.ok (a.toList.map λf=>(f.offset,((E.ty f.type).map Ty.size).getD 0)).toArray c.w:=by
  rw[o8,Sem.run_map]
  rw[show (a.toList.mapM λf=>(do pure (f.offset,<- sizeOf f.type):Sem (Nat × Nat))).run P c.w=_ from Bq he a.toList c.w (λf hf=>by
   have:=ez.1 hall (f.offset,f.type) (by rw[<- hfs];exact cv.2 ⟨f,hf,rfl⟩);simpa using this)]
  rfl
 obtain⟨arr,r1,r2,r3⟩:=tN (c:=c) _ hp hv.cells h;refine gI.same hs (x:=.agg arr) ?_ (by simpa using VR.agg cs arr.toList r2)
 have hplace:(λj=>(a.toList.map λf=>(f.offset,((E.ty f.type).map Ty.size).getD 0)).toArray[j]?)=placeOf E fs:=by
  funext j;unfold placeOf;rw[<- hfs];simp only[cm,jr];cases hj:a.toList[j]? with
  |none=>rfl
  |some f=>
   have:(E.ty f.type).isSome=true:=by
    have:=ez.1 hall (f.offset,f.type) (by rw[<- hfs];exact cv.2 ⟨f,ag hj,rfl⟩);simpa using this
   obtain⟨y,hy⟩:=jn.1 this;simp[hy]
 simp only[Instr.build,Sem.run_bind,hz,Result.andThen_ok,run_underlying hd,hplaces];rw[hplace,r1];rfl
end
end
section
theorem FQ (k:IntKind) (n:Int)(h1:lo k<=n)(h2:n<=hi k):k.wrap n=n:=by
 cases k <;> simp only[lo,hi]at h1 h2 <;> simp[IntKind.wrap,IntKind.signed,IntKind.bits] <;> omega
theorem Bd (k:IntKind) (n:Int):wr k n=k.wrap n:=by
 rw[Al];split
 ·rename_i h;simp only[ai,aa]at h;rw[FQ k n h.1 h.2]
 ·rfl
theorem rY (s:ByteArray):(bytes s).length=s.size:=by simp[bytes]
theorem GQ (a b:ByteArray):bytes (a++b)=bytes a++bytes b:=by simp[bytes]
theorem Em {a b:List UInt8}(h:a.map UInt8.toNat=b.map UInt8.toNat):a=b:=by
 induction a generalizing b with
 |nil=>cases b <;> simp_all
 |cons x a ih=>cases b with
  |nil=>simp at h
  |cons y b=>simp only[bh,qb]at h;rw[UInt8.toNat_inj.1 h.1,ih h.2]
theorem bytes_inj {a b:ByteArray}(h:bytes a=bytes b):a=b:=by
 have:=Em h;cases a;cases b;simp only[Array.toList_inj]at this;simp[this]
theorem seq_eq (a b:List Nat):seq a b=decide (a=b):=by
 induction a generalizing b with
 |nil=>cases b <;> simp[seq]
 |cons x a ih=>cases b with
  |nil=>simp[seq]
  |cons y b=>simp[CO,ih]
theorem Av (a b:ByteArray):seq (bytes a) (bytes b)=(a.toList==b.toList):=by
 rw[seq_eq,ByteArray.toList_eq,ByteArray.toList_eq];by_cases h:a=b
 ·subst h;simp
 ·have:¬ bytes a=bytes b:=λe=>h (bytes_inj e);have h2:¬ a.data=b.data:=λe=>h (by cases a;cases b;simp_all);simp[this,h2]
theorem EN (a b:List UInt8):slt (a.map UInt8.toNat) (b.map UInt8.toNat)=Op.bytesLess a b:=by
 induction a generalizing b with
 |nil=>cases b <;> rfl
 |cons x a ih=>cases b with
  |nil=>rfl
  |cons y b=>
   simp only[bh,yN,Op.bytesLess,ih];by_cases h:x=y
   ·subst h;simp
   ·have:¬ x.toNat=y.toNat:=λe=>h (UInt8.toNat_inj.1 e);simp[h,this,UInt8.lt_iff_toNat_lt]
theorem VG (a b:ByteArray):slt (bytes a) (bytes b)=Op.bytesLess a.toList b.toList:=by
 rw[ByteArray.toList_eq,ByteArray.toList_eq];exact EN _ _
section
variable {P:Program}{E:Env}{c:Cx}
theorem I5 {op:BinOp}{k:IntKind}{a b:Int}{t:Nat}{v:V}(h:arith op k a b=some v) (w:World) :
  ∃x,(binOp op t (.int k a) (.int k b)).run P w=.ok x w/\VR c v x:=by
 cases op with
 |add=>simp only[eO]at h;injection h with h;subst h;exact⟨_,by simp[binOp,Op.intArith,Bd],.inl (.int _ _)⟩
 |sub=>simp only[eO]at h;injection h with h;subst h;exact⟨_,by simp[binOp,Op.intArith,Bd],.inl (.int _ _)⟩
 |mul=>simp only[eO]at h;injection h with h;subst h;exact⟨_,by simp[binOp,Op.intArith,Bd],.inl (.int _ _)⟩
 |quo=>
  simp only[eO]at h;split at h
  ·cases h
  ·rename_i hb;injection h with h;subst h;exact⟨_,by simp[binOp,Op.intDiv,hb,Bd],.inl (.int _ _)⟩
 |rem=>
  simp only[eO]at h;split at h
  ·cases h
  ·rename_i hb;injection h with h;subst h;exact⟨_,by simp[binOp,Op.intDiv,hb],.inl (.int _ _)⟩
 |and=>simp only[eO]at h;injection h with h;subst h;exact⟨.int k _,by simp only[binOp,ne_eq,not_true,ay];rfl,.inl (.int _ _)⟩
 |or=>simp only[eO]at h;injection h with h;subst h;exact⟨.int k _,by simp only[binOp,ne_eq,not_true,ay];rfl,.inl (.int _ _)⟩
 |xor=>simp only[eO]at h;injection h with h;subst h;exact⟨.int k _,by simp only[binOp,ne_eq,not_true,ay];rfl,.inl (.int _ _)⟩
 |andNot=>simp only[eO]at h;injection h with h;subst h;exact⟨.int k _,by simp only[binOp,ne_eq,not_true,ay];rfl,.inl (.int _ _)⟩
 |eql=>simp only[eO]at h;injection h with h;subst h;exact⟨.bool (decide (a=b)),by simp only[binOp,ne_eq,not_true,ay,Op.intCmp];rfl,.inl (.bool _)⟩
 |neq=>simp only[eO]at h;injection h with h;subst h;exact⟨.bool (!decide (a=b)),by simp only[binOp,ne_eq,not_true,ay,Op.intCmp];rfl,.inl (.bool _)⟩
 |lss=>simp only[eO]at h;injection h with h;subst h;exact⟨.bool (decide (a<b)),by simp only[binOp,ne_eq,not_true,ay,Op.intCmp];rfl,.inl (.bool _)⟩
 |leq=>simp only[eO]at h;injection h with h;subst h;exact⟨.bool (decide (a<=b)),by simp only[binOp,ne_eq,not_true,ay,Op.intCmp];rfl,.inl (.bool _)⟩
 |gtr=>simp only[eO]at h;injection h with h;subst h;exact⟨.bool (decide (b<a)),by simp only[binOp,ne_eq,not_true,ay,Op.intCmp];rfl,.inl (.bool _)⟩
 |geq=>simp only[eO]at h;injection h with h;subst h;exact⟨.bool (decide (b<=a)),by simp only[binOp,ne_eq,not_true,ay,Op.intCmp];rfl,.inl (.bool _)⟩
 |shl=>simp only[eO]at h;cases h
 |shr=>simp only[eO]at h;cases h
theorem Ht {op:BinOp}{a b:ByteArray}{t:Nat}{v:V}(h:tZ op (bytes a) (bytes b)=some v) (w:World) :
  ∃x,(binOp op t (.string a) (.string b)).run P w=.ok x w/\VR c v x:=by
 cases op <;> simp only[tZ]at h <;> first
  |(cases h;done)
  |(injection h with h;subst h;refine⟨_,by simp only[binOp,Op.stringOp];rfl,?_⟩;simp only[Av,VG];exact .inl (.bool _))
  |skip
 split at h
 ·rename_i hle;injection h with h;subst h;simp only[aa,rY]at hle;refine⟨.string (a++b),?_,by rw[<- GQ];exact .inl (.str _)⟩;simp only[binOp,Op.stringOp];rw[an (by simp;omega)];rfl
 ·cases h
theorem Bj {op:BinOp}{k k':IntKind}{a b:Int}{t:Nat}{v:V}(ho:op=.shl\/op=.shr)(h:shift op k a b=some v) (w:World) :
  ∃x,(binOp op t (.int k a) (.int k' b)).run P w=.ok x w/\VR c v x:=by
 unfold shift at h;split at h
 ·cases h
 ·rename_i hb;rcases ho with rfl | rfl
  ·simp only at h;injection h with h;subst h;exact⟨_,by simp[binOp,Op.shift,hb],.inl (.int _ _)⟩
  ·simp only at h;injection h with h;subst h;exact⟨_,by simp[binOp,Op.shift,hb],.inl (.int _ _)⟩
theorem Kq:∀{sh:List Kd}{as bs:List V}{b:Bool}{xs ys:List Value},eqs sh as bs=some b->fD c as xs->fD c bs ys->Sc sh as xs/\Sc sh bs ys:=by
 intro sh as bs
 fun_induction eqs sh as bs with
 |case1=>intro b xs ys h ha hb;cases ha;cases hb;exact⟨.nil,.nil⟩
 |case2 sh x a y b' q hq ih=>
  intro b xs ys h ha hb;cases ha with | cons _ x' _ xs hx hxs=>
  cases hb with | cons _ y' _ ys hy hys=>
  obtain⟨h1,h2⟩:=ih hq hxs hys;rw[hx.gH,hy.gH];exact⟨.bool _ _ _ _ h1,.bool _ _ _ _ h2⟩
 |case4 k sh k1 x a k2 y b' hk q hq ih=>
  intro b xs ys h ha hb;obtain⟨rfl,rfl⟩:=hk;cases ha with | cons _ x' _ xs hx hxs=>
  cases hb with | cons _ y' _ ys hy hys=>
  obtain⟨h1,h2⟩:=ih hq hxs hys;rw[hx.eD,hy.eD];exact⟨.int _ _ _ _ _ h1,.int _ _ _ _ _ h2⟩
 |case7 sh x a y b' q hq ih=>
  intro b xs ys h ha hb;cases ha with | cons _ x' _ xs hx hxs=>
  cases hb with | cons _ y' _ ys hy hys=>
  obtain⟨h1,h2⟩:=ih hq hxs hys;obtain⟨s,rfl,rfl⟩:=hx.eU;obtain⟨s',rfl,rfl⟩:=hy.eU;exact⟨.str _ _ _ _ h1,.str _ _ _ _ h2⟩
 |_=>intro b xs ys h;cases h
theorem cQ {t:Nat}{d:TypeDesc} (_hd:P.underlying t=some d) (w:World) {x y:Value}{b:Bool}(h:∀n,(Op.equalIn (n+1) t x y).run P w=.ok b w):(Op.equal t x y).run P w=.ok b w:=h 9999
theorem Nz (he:cB P E) {t:Nat}{xC:Bool}{v u:V}{x y:Value}{b:Bool}(h:mP E t xC v u=some b)(hv:VR c v x)(hu:VR c u y) {op:BinOp}{ox oy:Operand}
  (hc:xC=true->(∃z,ox=.const z)\/∃z,oy=.const z) :
  (eqGuard op t ox oy x y).run P c.w=.ok () c.w/\(Op.equal t x y).run P c.w=.ok b c.w:=by
 unfold mP at h;split at h
 ·cases h
 ·rename_i i hi;obtain⟨d,hd,hkd⟩:=(he.ty t i hi).kd;have plain:∀{x y:Value},(∀m:Unit,True)->(∀n,(Op.equalIn (n+1) t x y).run P c.w=.ok b c.w)->(Op.equal t x y).run P c.w=.ok b c.w:=λ_ h=>h 9999;split at h <;> rename_i hk <;> (try rw[hk]at hkd) <;> (try simp only[pC]at hkd) <;> (try subst hkd)
  ·
   injection h with h;subst h;rw[hv.gH,hu.gH];exact⟨by cases op <;> rfl,cQ hd _ λn=>by simp[Op.equalIn,run_underlying hd]⟩
  ·injection h with h;subst h;rw[hv.pV,hu.pV];exact⟨by cases op <;> rfl,cQ hd _ λn=>by simp[Op.equalIn,run_underlying hd]⟩
  ·injection h with h;subst h;obtain⟨rfl,_⟩:=hu.iK;rw[hv.pV];exact⟨by cases op <;> rfl,cQ hd _ λn=>by simp[Op.equalIn,run_underlying hd]⟩
  ·injection h with h;subst h;obtain⟨_,_,rfl,_⟩:=hu.zR;rw[hv.pV];exact⟨by cases op <;> rfl,cQ hd _ λn=>by simp[Op.equalIn,run_underlying hd]⟩
  ·injection h with h;subst h;obtain⟨rfl,_⟩:=hv.iK;rw[hu.pV];exact⟨by cases op <;> rfl,cQ hd _ λn=>by simp[Op.equalIn,run_underlying hd]⟩
  ·injection h with h;subst h;obtain⟨_,_,rfl,_⟩:=hv.zR;rw[hu.pV];exact⟨by cases op <;> rfl,cQ hd _ λn=>by simp[Op.equalIn,run_underlying hd]⟩
  ·
   rename_i e b1 o1 b2 o2;split at h
   ·rename_i ei hei;split at h
    ·rename_i hbb;obtain⟨rfl,hz⟩:=hbb;injection h with h;subst h;obtain⟨rfl,_⟩:=hv.iK;obtain⟨rfl,_⟩:=hu.iK;refine⟨by cases op <;> rfl,cQ hd _ λn=>?_⟩;simp only[Op.equalIn,Sem.run_bind,run_underlying hd,Result.andThen_ok,(he.ty e ei hei).size,Sem.run_ite,ne_eq,hz,oe,bf,sameAddr,beq_self_eq_true];simp only[Sem.run_pure,Result.ok.injEq,da];by_cases ho:o1=o2 <;> simp[ho]
    ·cases h
   ·cases h
  ·injection h with h;subst h;rw[hv.gY,hu.gY];exact⟨by cases op <;> rfl,cQ hd _ λn=>by simp[Op.equalIn,run_underlying hd]⟩
  ·injection h with h;subst h;obtain⟨_,_,_,_,_,rfl,_⟩:=hu.nP;rw[hv.gY];exact⟨by cases op <;> rfl,cQ hd _ λn=>by simp[Op.equalIn,run_underlying hd]⟩
  ·injection h with h;subst h;obtain⟨_,rfl,_⟩:=hu.mD;rw[hv.gY];exact⟨by cases op <;> rfl,cQ hd _ λn=>by simp[Op.equalIn,run_underlying hd]⟩
  ·injection h with h;subst h;obtain⟨_,_,_,_,_,rfl,_⟩:=hv.nP;rw[hu.gY];exact⟨by cases op <;> rfl,cQ hd _ λn=>by simp[Op.equalIn,run_underlying hd]⟩
  ·injection h with h;subst h;obtain⟨_,rfl,_⟩:=hv.mD;rw[hu.gY];exact⟨by cases op <;> rfl,cQ hd _ λn=>by simp[Op.equalIn,run_underlying hd]⟩
  ·injection h with h;subst h;rw[hv.mJ,hu.mJ];exact⟨by cases op <;> rfl,cQ hd _ λn=>by simp[Op.equalIn,run_underlying hd]⟩
  ·injection h with h;subst h;obtain⟨_,_,_,_,rfl,_⟩:=hu.tH;rw[hv.mJ];exact⟨by cases op <;> rfl,cQ hd _ λn=>by simp[Op.equalIn,run_underlying hd]⟩
  ·injection h with h;subst h;obtain⟨rfl,_⟩:=hu.xS;rw[hv.mJ];exact⟨by cases op <;> rfl,cQ hd _ λn=>by simp[Op.equalIn,run_underlying hd]⟩
  ·injection h with h;subst h;obtain⟨_,_,_,_,rfl,_⟩:=hv.tH;rw[hu.mJ];exact⟨by cases op <;> rfl,cQ hd _ λn=>by simp[Op.equalIn,run_underlying hd]⟩
  ·injection h with h;subst h;obtain⟨rfl,_⟩:=hv.xS;rw[hu.mJ];exact⟨by cases op <;> rfl,cQ hd _ λn=>by simp[Op.equalIn,run_underlying hd]⟩
  ·injection h with h;subst h;obtain⟨_,_,_,rfl⟩:=hkd;rw[hv.zI,hu.zI];exact⟨by cases op <;> rfl,cQ hd _ λn=>by simp[Op.equalIn,run_underlying hd]⟩
  ·injection h with h;subst h;obtain⟨_,_,_,rfl⟩:=hkd;obtain⟨_,_,rfl,_⟩:=hu.AX;rw[hv.zI];exact⟨by cases op <;> rfl,cQ hd _ λn=>by simp[Op.equalIn,run_underlying hd]⟩
  ·injection h with h;subst h;obtain⟨_,_,_,rfl⟩:=hkd;obtain⟨_,_,rfl,_⟩:=hv.AX;rw[hu.zI];exact⟨by cases op <;> rfl,cQ hd _ λn=>by simp[Op.equalIn,run_underlying hd]⟩
  ·split at h
   ·rename_i hcs;injection h with h;subst h;obtain⟨_,rfl⟩:=hkd;rw[hv.zH,hu.zH];refine⟨?_,cQ hd _ λn=>by simp[Op.equalIn,run_underlying hd]⟩;rcases hc hcs with⟨z,rfl⟩ | ⟨z,rfl⟩
    ·rw[eqGuard_nil_constL];rfl
    ·rw[eqGuard_nil_constR];rfl
   ·cases h
  ·injection h with h;subst h;obtain⟨_,rfl⟩:=hkd;obtain⟨_,rfl,_⟩:=hu.GH;rw[hv.zH];exact⟨by rw[eqGuard_nil_iface];rfl,cQ hd _ λn=>by simp[Op.equalIn,run_underlying hd]⟩
  ·injection h with h;subst h;obtain⟨_,rfl⟩:=hkd;obtain⟨_,rfl,_⟩:=hv.GH;rw[hu.zH];exact⟨by rw[eqGuard_at_iface];rfl,cQ hd _ λn=>by simp[Op.equalIn,run_underlying hd]⟩
  ·split at h
   ·rename_i sh hsh;obtain⟨xs,rfl,hxs⟩:=hv.tV;obtain⟨ys,rfl,hys⟩:=hu.tV;obtain⟨s1,s2⟩:=Kq h hxs hys;have ho:=he.eqs t sh hsh;exact⟨ho.guard _ _ _ _ _ _ _ _ s1 s2,ho.eq _ _ _ _ _ _ h s1 s2⟩
   ·cases h
  ·cases h
def AJ:Value->Bool
 | .int .. | .float .. | .complex .. | .string _=>false
 |_=>true
theorem Ky {t:Nat}{x y:Value}(h:AJ x=true):binOp .eql t x y=(do pure (.bool (<- Op.equal t x y)):Sem Value):=by
 cases x <;> first | (cases h;done) | rfl
theorem Kx {t:Nat}{x y:Value}(h:AJ x=true):binOp .neq t x y=(do pure (.bool (!(<- Op.equal t x y))):Sem Value):=by
 cases x <;> first | (cases h;done) | rfl
theorem VR.AJ {v:V}{x:Value}(h:VR c v x)(h1:∀k n,v≠.int k n)(h2:∀s,v≠.str s):Ax.AJ x=true:=by
 cases h with
 |inl h=>cases h <;> first | rfl | exact absurd rfl (h1 _ _) | exact absurd rfl (h2 _)
 |_=>rfl
theorem Ce {t:Nat}{xC:Bool}{v u:V}{b:Bool}(h:mP E t xC v u=some b):(∀k n,v≠.int k n)/\(∀s,v≠.str s):=by
 constructor
 ·intro k n e;subst e;unfold mP at h;split at h
  ·cases h
  ·split at h <;> first | (cases h;done) | simp_all
 ·intro s e;subst e;unfold mP at h;split at h
  ·cases h
  ·split at h <;> first | (cases h;done) | simp_all
theorem NS (he:cB P E) {op:BinOp}{t:Nat}{ox oy:Operand}{v u r:V}{x y:Value}(h:bin E op t (isConst ox||isConst oy) v u=some r)(hv:VR c v x)(hu:VR c u y) :
  ∃z,(do eqGuard op t ox oy x y;binOp op t x y:Sem Value).run P c.w=.ok z c.w/\VR c r z:=by
 have hcst:(isConst ox||isConst oy)=true->(∃z,ox=.const z)\/∃z,oy=.const z:=by
  intro h;simp only[fl]at h;rcases h with h | h
  ·cases ox <;> first | (cases h;done) | exact .inl ⟨_,rfl⟩
  ·cases oy <;> first | (cases h;done) | exact .inr ⟨_,rfl⟩
 unfold bin at h;split at h
 ·rename_i k a k' b;rw[hv.eD,hu.eD];simp only[Sem.run_bind,eqGuard_at_int,Sem.run_pure,Result.andThen_ok];split at h
  ·exact Bj (.inl rfl) h c.w
  ·exact Bj (.inr rfl) h c.w
  ·split at h
   ·rename_i hk;subst hk;exact I5 h c.w
   ·cases h
 ·rename_i a b;obtain⟨s,rfl,rfl⟩:=hv.eU;obtain⟨s',rfl,rfl⟩:=hu.eU;simp only[Sem.run_bind,eqGuard_at_string,Sem.run_pure,Result.andThen_ok];exact Ht h c.w
 ·rename_i hni hns;have key:∀b,mP E t (isConst ox||isConst oy) v u=some b->(eqGuard op t ox oy x y).run P c.w=.ok () c.w/\(Op.equal t x y).run P c.w=.ok b c.w:=λb hb=>Nz he hb hv hu hcst;split at h
  ·cases hq:mP E t (isConst ox||isConst oy) v u with
   |none=>rw[hq]at h;cases h
   |some b=>
    rw[hq]at h;injection h with h;subst h;obtain⟨g1,g2⟩:=key b hq;refine⟨.bool b,?_,.inl (.bool _)⟩;have hn:=hv.AJ (Ce hq).1 (Ce hq).2;simp only[Sem.run_bind,g1,Result.andThen_ok,Ky hn,g2,Sem.run_pure]
  ·cases hq:mP E t (isConst ox||isConst oy) v u with
   |none=>rw[hq]at h;cases h
   |some b=>
    rw[hq]at h;injection h with h;subst h;obtain⟨g1,g2⟩:=key b hq;refine⟨.bool (!b),?_,.inl (.bool _)⟩;have hn:=hv.AJ (Ce hq).1 (Ce hq).2;simp only[Sem.run_bind,g1,Result.andThen_ok,Kx hn,g2,Sem.run_pure]
  ·cases h
end
end
section
theorem eI.flat {w:World}{I:Bool->Nat->Prop}{sz blk:Nat}:∀{xs:List (List V)}{off:Nat},eI w I sz xs blk off->dO w I xs.flatten blk off/\xs.flatten.length=xs.length*sz
 | [],off,_=>⟨.nil,by simp⟩
 |r::xs,off,h=>by
  cases h with | cons _ _ hl hc hr=>
  obtain⟨h1,h2⟩:=hr.flat;refine⟨dO.qZ λj v hj=>?_,by simp[h2,hl,Nat.succ_mul,Nat.add_comm]⟩;simp only[dw]at hj;by_cases hlt:j<r.length
  ·exact hc.get j v (by rwa [b8 hlt]at hj)
  ·rw[br (by omega)]at hj;obtain⟨x,hx,hv⟩:=h1.get _ v hj;exact⟨x,by rw[show off+j=off+sz+(j-r.length) by omega];exact hx,hv⟩
theorem eI.drop {w:World}{I:Bool->Nat->Prop}{sz blk:Nat}:∀{xs:List (List V)}{off:Nat},eI w I sz xs blk off->∀l,eI w I sz (xs.drop l) blk (off+l*sz)
 | [],off,_,l=>by simp;exact .nil
 |r::xs,off,h,0=>by simpa using h
 |r::xs,off,h,l+1=>by
  cases h with | cons _ _ hl hc hr=>
  have:=hr.drop l;rw[show off+sz+l*sz=off+(l+1)*sz by rw[jk];omega]at this;simpa using this
theorem eI.take {w:World}{I:Bool->Nat->Prop}{sz blk:Nat}:∀{xs:List (List V)}{off:Nat},eI w I sz xs blk off->∀l,eI w I sz (xs.take l) blk off
 | [],off,_,l=>by simp;exact .nil
 |r::xs,off,h,0=>by simp;exact .nil
 |r::xs,off,h,l+1=>by
  cases h with | cons _ _ hl hc hr=>exact .cons r _ hl hc (hr.take l)
theorem eI.get {w:World}{I:Bool->Nat->Prop}{sz blk:Nat}:∀{xs:List (List V)}{off:Nat},eI w I sz xs blk off->∀i r,xs[i]?=some r->r.length=sz/\dO w I r blk (off+i*sz)
 | [],off,_,i,r,hr=>by simp at hr
 |q::xs,off,h,0,r,hr=>by
  cases h with | cons _ _ hl hc hrr=>simp at hr;subst hr;exact⟨hl,by simpa using hc⟩
 |q::xs,off,h,i+1,r,hr=>by
  cases h with | cons _ _ hl hc hrr=>
  obtain⟨h1,h2⟩:=hrr.get i r (by simpa using hr);exact⟨h1,by rw[show off+(i+1)*sz=off+sz+i*sz by rw[jk];omega];exact h2⟩
theorem eI.F7 {w:World}{I:Bool->Nat->Prop}{sz size blk off:Nat}{xs:List (List V)}(h:eI w I sz xs blk off)(hk:F7 size xs=true):xs=[]\/sz=size:=by
 cases h with
 |nil=>exact .inl rfl
 |cons r xs hl hc hr=>exact .inr (by simp only[Ax.F7,gr]at hk;omega)
theorem eI.resize {w:World}{I:Bool->Nat->Prop}{sz size blk off:Nat}{xs:List (List V)}(h:eI w I sz xs blk off)(hk:Ax.F7 size xs=true):eI w I size xs blk off:=by
 rcases h.F7 hk with rfl | rfl
 ·exact .nil
 ·exact h
section
variable {P:Program}{E:Env}{c:Cx}
theorem U1 (s:List UInt8):fD c (u8s (s.map UInt8.toNat)) (s.map λb=>.int .u8 b.toNat):=by
 induction s with
 |nil=>exact .nil
 |cons a s ih=>exact .cons _ _ _ _ (.inl (.int _ _)) ih
theorem lV (hs:SR E c) {size:Nat}{v:V}{x:Value}{cs:List V}{n:Nat}(h:elems c.Z size v=some (cs,n))(hv:VR c v x) :
  ∃xs:List Value,fD c cs xs/\xs.length=n*size/\(∀w',(∀k,k<c.w.heap.size->w'.heap[k]?=c.w.heap[k]?)->(Builtin.firstCells size n x).run P w'=.ok xs.toArray w')/\(∀w',(Builtin.lenOf x).run P w'=.ok n w')/\cs.all V.aY=true:=by
 cases v <;> simp only[elems]at h <;> first | (cases h;done) | skip
 case str s=>
  split at h
  ·rename_i hsz;subst hsz;injection h with h;injection h with h1 h2;subst h1 h2;obtain⟨b,rfl,rfl⟩:=hv.eU;refine⟨b.data.toList.map λb=>.int .u8 b.toNat,U1 _,by simp[bytes],λw' _=>?_,λw'=>by simp[Builtin.lenOf,bytes],by simp[u8s,List.all_map,Function.comp_def,V.aY]⟩;have e:b.extract 0 (bytes b).length=b:=by rw[rY];exact ByteArray.extract_zero_size
   simp only[Builtin.firstCells,e,Sem.run_pure];congr 1;apply pq;simp
  ·cases h
 case aF=>
  injection h with h;injection h with h1 h2;subst h1 h2;rw[hv.gY];exact⟨[],.nil,by simp,λw' _=>rfl,λw'=>rfl,rfl⟩
 case bS g xs full=>
  split at h
  ·rename_i hk;injection h with h;injection h with h1 h2;subst h1 h2;obtain⟨blk,off,sp,cap,sz,rfl,hi,hc,hf,hr⟩:=hv.nP;rcases hi with⟨rfl,hi⟩ | ⟨rfl,rfl⟩
   case inr=>exact⟨[],.nil,by simp,(λw' _=>by unfold Builtin.firstCells;simp only[b9,iz];exact run_loadCells_list w' _ [] λj v hj=>by cases hj),λw'=>rfl,rfl⟩
   obtain⟨hcells,hlen⟩:=(hr.resize hk).flat;obtain⟨ys,hys,hcell⟩:=hcells.vals;have hV:fD c xs.flatten ys:=(hys.mono (vX c g)).vrs;have hl:=hV.len;refine⟨ys,hV,by omega,λw' hw=>?_,λw'=>rfl,hys.lH⟩;simp only[Builtin.firstCells]
   exact jV (by omega) λj y hj=>by
    rw[cell_of_heap (hw blk hi.1)];exact hcell j y hj
  ·cases h
 case sl b off len cap=>
  split at h
  ·rename_i t cs' ex hob;split at h
   ·rename_i hle;injection h with h;injection h with h1 h2;subst h1 h2;obtain⟨cap',rfl,hb,hl,_⟩:=hv.mD;obtain⟨arr,g1,g2,g3,g4,g5,g6,g7⟩:=(hs.obj b _ hob).iS;have hV:=(g6.drop off).take (len*size)
    have e:((arr.toList.take cs'.length).drop off).take (len*size)=(arr.toList.drop off).take (len*size):=by
     rw[List.drop_take,nq,ju (by omega)]
    rw[e]at hV
    refine⟨_,hV,by simp;omega,λw' hw=>?_,λw'=>rfl,by
     simp only[ez]at g7 ⊢;exact λx hx=>g7 x (List.mem_of_mem_drop (ji hx))⟩
    simp only[Builtin.firstCells];refine jV (by simp;omega) λj y hj=>?_;rw[cell_of_heap (hw _ (jC g1)),nR g1];have hj':j<len*size:=by have:=(AI.1 hj).1;simp at this;omega
    simpa [getElem?_take,hj',List.getElem?_drop]using hj
   ·cases h
  ·cases h
theorem Pg (n:Nat) (z:List V):(gX n z).length=n*z.length:=by
 induction n with
 |zero=>simp[gX]
 |succ n ih=>simp[gX,ih,Nat.succ_mul,Nat.add_comm]
def rJ (n:Nat) (z:List Value):List Value:=match n with
 |0=>[]
 |n+1=>z++rJ n z
theorem yV {z:List V}{zs:List Value}(h:fD c z zs) (n:Nat):fD c (gX n z) (rJ n zs):=by
 induction n with
 |zero=>exact .nil
 |succ n ih=>exact h.append ih
theorem MY (n:Nat) (z:List Value) (d:Value):(List.range (n*z.length)).map (λi=>z[i % z.length]?.getD d)=rJ n z:=by
 induction n with
 |zero=>simp[rJ]
 |succ n ih=>
  rw[jk,mg,List.range_add,gp,jv,rJ];congr 1
  ·apply jx;intro i;by_cases hi:i<z.length
   ·simp[hi,Nat.mod_eq_of_lt hi]
   ·simp[hi]
  ·rw[<- ih];apply jo;intro i _;simp[Function.comp]
theorem oN (z:Array Value) (n:Nat):(Builtin.zeroCells z n).toList=rJ n z.toList:=by
 have:=MY n z.toList default;simp only[Builtin.zeroCells,Array.toList_map,Array.toList_range];rw[<- this];simp only[jg];apply jo;intro i hi;simp[getElem!_def,Array.getElem?_toList,Option.getD];cases z[i % z.size]? <;> rfl
theorem sR {need bytes:Nat}(h:roomy need bytes=true) {old:Nat}(ho:old<need):Builtin.nextslicecap need old*bytes<=2 ^ 48/\need<=281474976710656:=by
 simp only[roomy,aa]at h
 have hn:Builtin.nextslicecap need old<=2*need+256:=by
  have grow:∀r c,c<=2*need+256->Builtin.growBy need r c<=2*need+256:=by
   intro r
   induction r with
   |zero=>intro c h;exact h
   |succ r ih=>
    intro c h;unfold Builtin.growBy;split
    ·exact h
    ·exact ih _ (by omega)
  unfold Builtin.nextslicecap;split
  ·omega
  ·split
   ·omega
   ·exact grow 4 old (by omega)
 have h1:Builtin.nextslicecap need old*bytes<=(2*need+256)*(bytes+1):=Nat.mul_le_mul hn (by omega);have h2:need*1<=(2*need+256)*(bytes+1):=Nat.mul_le_mul (by omega) (by omega);exact⟨fh h1 (fh h (by decide)),fh (by rw[po]at h2;exact h2) h⟩
theorem HM {need bytes:Nat}(h:pO need bytes=true)(ho:0<need):Builtin.nextslicecap need 0*bytes<=2 ^ 48/\need<=281474976710656:=by
 simp only[pO,aa]at h
 have hn:Builtin.nextslicecap need 0=need:=by
  unfold Builtin.nextslicecap;rw[az (by omega)]
 have h1:need*bytes<=need*(bytes+1):=Nat.mul_le_mul (OF _) (by omega);have h2:need*1<=need*(bytes+1):=Nat.mul_le_mul (OF _) (by omega);rw[hn];exact⟨fh h1 (fh h (by decide)),fh (by rw[po]at h2;exact h2) h⟩
theorem LI (hs:SR E c) {t:Nat}{i:Ty}(hi:E.ty t=some i) {cs:List V}{xs ys:List Value}(hv:fD c cs xs)(hok:cs.all V.aY=true) :
  ∃c',c'.w={ c.w with heap:=c.w.heap.push (.cells (xs++ys).toArray t (0,0)) }/\c'.Z=c.Z++[.cells t cs false]/\Ext c c'/\SR E c'/\c'.blk c.Z.length=c.w.heap.size/\c'.tot c.Z.length=xs.length+ys.length/\c'.yD c.Z.length=i.size:=by
 refine⟨c.alloc (.cells (xs++ys).toArray t (0,0)) (.cells t cs false) (xs.length+ys.length) i.size,rfl,rfl,Cx.gB hs _ _ _ _,Cx.r_ hs _ _ _ _ ?_,by simp[Cx.alloc],by simp[Cx.alloc],by simp[Cx.alloc]⟩;refine uI.vP (arr:=(xs++ys).toArray) (xs:=xs) (ys:=ys) ?_ (by simp[Cx.alloc]) ⟨i,hi,by simp[Cx.alloc]⟩ (λh=>by cases h) (by simp) (fD.mono (Cx.gB hs _ _ _ _) hv) hok;show (c.w.heap.push _)[if c.Z.length=c.Z.length then _ else _]?=_;simp
theorem Px {k:Kd}(hne:∀i,k≠.int i) {d:TypeDesc}(h:pC d k) (j:IntKind):d≠.int j:=by
 rintro rfl
 cases k <;> simp only[pC]at h <;> first
  |(exact absurd rfl (hne _))
  |(cases h;done)
  |(obtain⟨_,_,_,h⟩:=h;cases h;done)
  |(obtain⟨_,h,_⟩:=h;cases h;done)
  |(obtain⟨_,h⟩:=h;cases h;done)
theorem jX {st e : Nat} {i : Ty} (he : cB P E) {si : Ty} (hsi : E.ty st = some si) (hk : si.kd = .sl e) (hi : E.ty e = some i) (ats : Array Nat) (ty : Nat) (hat : ats[0]? = some st)
    (hz : ∀ xt, ats[1]? = some xt -> ∃ xi, E.ty xt = some xi /\ (∀ k, xi.kd ≠ .int k)) {x y : Value} {base : Option Addr} {len cap n : Nat}
    {olds news : List Value} (hy : y = .slice base len cap)
    (hn : ∀ w', (Builtin.lenOf x).run P w' = .ok n w') (hcap : cap < len + n) (hr : Builtin.nextslicecap (len + n) cap * i.bytes <= 2 ^ 48 /\ len + n <= 281474976710656) (w : World)
    (hold : ∀ w', (∀ k, k < w.heap.size -> w'.heap[k]? = w.heap[k]?) -> (Builtin.firstCells i.size len y).run P w' = .ok olds.toArray w')
    (hnew : ∀ w', (∀ k, k < w.heap.size -> w'.heap[k]? = w.heap[k]?) -> (Builtin.firstCells i.size n x).run P w' = .ok news.toArray w') :
    ∃ (nc : Nat) (rest : List Value), len + n <= nc /\ rest.length = (nc - (len + n)) * i.size /\
      (Builtin.append_ ats ty #[y, x]).run P w = .ok (.slice (some ⟨w.heap.size, 0, none⟩) (len + n) nc)
        { w with heap := w.heap.push (.cells ((olds ++ news) ++ rest).toArray e (0, 0)), drawn := w.drawn + 1 } := by
  have ht := he.ty e i hi;obtain ⟨d, hd, hkd⟩ := (he.ty st si hsi).kd;rw [hk] at hkd;simp only [pC] at hkd;subst hkd;obtain ⟨z, hz0, hz1, hzs⟩ := ht.zero;obtain ⟨inf, hinf, hsz, hby, _⟩ := ht.info;obtain ⟨h1, h2⟩ := hr;subst hy;refine ⟨(Question.appendCap (len + n) cap e).cut (w.tape w.drawn (.appendCap (len + n) cap e)), rJ ((Question.appendCap (len + n) cap e).cut (w.tape w.drawn (.appendCap (len + n) cap e)) - (len + n)) z.cells.toList, ?_, ?_, ?_⟩
  · simp [Question.cut]
  · have : ∀ m, (rJ m z.cells.toList).length = m * i.size := by
      intro m
      induction m with
      | zero => simp [rJ]
      | succ m ih => simp [rJ, ih, hzs, Nat.succ_mul, Nat.add_comm]
    exact this _
  · have hnc : ¬ (len + n <= cap) := by omega
    have hmx : ¬ ((((len + n : Nat) : Int) > IntKind.i64.max) /\ (False \/ inf.bytes = 0)) := by
      rw [IntKind.max_i64]; omega
    have hbig : ¬ (Builtin.nextslicecap (len + n) cap * inf.bytes > 2 ^ 48) := by rw [hby]; omega
    have hfo : (Question.appendCap (len + n) cap e).forced = false := rfl;unfold Builtin.append_;have e0 : (#[Value.slice base len cap, x] : Array Value)[0]? = some (.slice base len cap) := rfl;have e1 : (#[Value.slice base len cap, x] : Array Value)[1]? = some x := rfl;rw [hat, e0, e1];cases hx : ats[1]? with
    | none =>
      simp only [Sem.run_bind, run_underlying hd, Result.andThen_ok, ht.size, ah, ay, hn w, Sem.run_ite, hnc, mj, bf, run_typeInfo hinf, hmx, hbig, run_choose, run_askRoom, Sem.run_pure, hfo];simp only [hold { w with drawn := w.drawn + 1 } (fun _ _ => rfl), hnew { w with drawn := w.drawn + 1 } (fun _ _ => rfl), hz0, newRow, Sem.run_bind, run_newObj, Sem.run_pure, Result.andThen_ok];congr 4;apply pq;simp [oN]
    | some xt =>
      obtain ⟨xi, hxi, hne⟩ := hz xt hx;obtain ⟨d, hd', hkd'⟩ := (he.ty xt xi hxi).kd;have hm := Px hne hkd'
      cases d <;> first
        | exact absurd rfl (hm _)
        | (simp only [Sem.run_bind, run_underlying hd, run_underlying hd', Result.andThen_ok, ht.size, ah, ay, hn w, Sem.run_ite, hnc, mj, bf, run_typeInfo hinf, hmx, hbig, run_choose, run_askRoom, Sem.run_pure, hfo]
           simp only [hold { w with drawn := w.drawn + 1 } (fun _ _ => rfl), hnew { w with drawn := w.drawn + 1 } (fun _ _ => rfl), hz0, newRow, Sem.run_bind, run_newObj, Sem.run_pure, Result.andThen_ok];congr 4;apply pq;simp [oN])
theorem lA {st e : Nat} {i : Ty} (he : cB P E) {si : Ty} (hsi : E.ty st = some si) (hk : si.kd = .sl e) (hi : E.ty e = some i) (ats : Array Nat) (ty : Nat) (hat : ats[0]? = some st)
    (hz : ∀ xt, ats[1]? = some xt -> ∃ xi, E.ty xt = some xi /\ (∀ k, xi.kd ≠ .int k)) {x : Value} {base : Option Addr} {len cap n : Nat} {news : List Value}
    (hn : ∀ w', (Builtin.lenOf x).run P w' = .ok n w') (hcap : len + n <= cap) (w : World)
    (hnew : (Builtin.firstCells i.size n x).run P w = .ok news.toArray w) :
    (Builtin.append_ ats ty #[.slice base len cap, x]).run P w =
      (match base with
       | some a => ((storeCells (a.add (len * i.size)) news 0).run P w).andThen fun _ w => .ok (.slice base (len + n) cap) w
       | none => .ok (.slice base (len + n) cap) w) := by
  have ht := he.ty e i hi;obtain ⟨d, hd, hkd⟩ := (he.ty st si hsi).kd;rw [hk] at hkd;simp only [pC] at hkd;subst hkd;unfold Builtin.append_;have e0 : (#[Value.slice base len cap, x] : Array Value)[0]? = some (.slice base len cap) := rfl;have e1 : (#[Value.slice base len cap, x] : Array Value)[1]? = some x := rfl;rw [hat, e0, e1];cases hx : ats[1]? with
  | none =>
    simp only [Sem.run_bind, run_underlying hd, Result.andThen_ok, ht.size, ah, ay, hn w, Sem.run_ite, hcap, mj, bf, Sem.run_pure, hnew];cases base <;> simp
  | some xt =>
    obtain ⟨xi, hxi, hne⟩ := hz xt hx;obtain ⟨d, hd', hkd'⟩ := (he.ty xt xi hxi).kd;have hm := Px hne hkd'
    cases d <;> first
      | exact absurd rfl (hm _)
      | (simp only [Sem.run_bind, run_underlying hd, run_underlying hd', Result.andThen_ok, ht.size, ah, ay, hn w, Sem.run_ite, hcap, mj, bf, Sem.run_pure, hnew]
         cases base <;> simp)
theorem fD.qB {vs:List V}{xs:List Value}(h:fD c vs xs):xs.length=vs.length:=h.len.symm
theorem mK (hs:SR E c) {t:Nat}{i:Ty}(hi:E.ty t=some i) {cs:List V}{xs ys:List Value}(hv:fD c cs xs)(hok:cs.all V.aY=true) {len nc:Nat}(hl:xs.length=len*i.size)(hy:ys.length=(nc-len)*i.size)(hle:len<=nc) :
  ∃c',c'.w={ c.w with heap:=c.w.heap.push (.cells (xs++ys).toArray t (0,0)),drawn:=c.w.drawn+1 }/\c'.Z=c.Z++[.cells t cs false]/\Ext c c'/\SR E c' /\
   VR c' (.sl c.Z.length 0 len none) (.slice (some ⟨c.w.heap.size,0,none⟩) len nc):=by
 obtain⟨c',h1,h2,h3,h4,h5,h6,h7⟩:=LI (Cx.wM hs) hi (ys:=ys) (fD.mono c.kG hv) hok;refine⟨c',h1,h2,c.kG.trans h3,h4,?_⟩;have h5':c'.blk c.Z.length=c.w.heap.size:=h5;rw[<- h5'];refine .sl _ _ _ _ _ (by rw[h2];simp[Cx.drew]) hle (λk hk=>by cases hk) (λ_=>?_);have h6':c'.tot c.Z.length=xs.length+ys.length:=h6;have h7':c'.yD c.Z.length=i.size:=h7;rw[h6',h7',hl,hy,<- og,Nat.add_sub_cancel' hle,dh]
end
end
section
section
variable {P:Program}{E:Env}{c:Cx}
theorem LF {cs:List V}{a b:Nat}(h:cs.all V.aY=true):((cs.drop a).take b).all V.aY=true:=by
 simp only[ez]at h ⊢;exact λx hx=>h x (List.mem_of_mem_drop (ji hx))
theorem pF {a b:List V}(h:a.all V.aY=true) (k:b.all V.aY=true):(a++b).all V.aY=true:=by simp_all
theorem GY (he:cB P E)(hs:SR E c) {ats:Array Nat}{ty:Nat}{sv xv v:V}{s x:Value}{σ':Sg}(h:append E c.Z ats sv xv=some (v,σ'))(hsv:VR c sv s)(hxv:VR c xv x) :
  gI E c ((Builtin.append_ ats ty #[s,x]).run P c.w) v σ':=by
 unfold append at h;split at h
 ·cases h
 rename_i st hat;split at h
 case h_2=>cases h
 rename_i e _ _ _ hsi;split at h
 ·cases h
 rename_i i hi;split at h
 ·cases h
 rename_i hpl;split at h
 ·cases h
 rename_i new n hel;simp only[fl,qm,Bool.not_eq_true,Bool.not_eq_false',beq_eq_false_iff_ne]at hpl
 have hz:∀xt,ats[1]?=some xt->∃xi,E.ty xt=some xi/\(∀k,xi.kd≠.int k):=by
  intro xt hx;have:=hpl.1;simp only[eA,hx]at this;split at this
  ·rename_i xi hxi;refine⟨xi,hxi,λk hk=>?_⟩;rw[hk]at this;cases this
  ·cases this
 obtain⟨news,hnV,hnl,hfc,hlo,hok⟩:=lV (P:=P) hs hel hxv;split at h
 ·
  rw[hsv.gY];split at h
  ·rename_i hn0;subst hn0;injection h with h;injection h with h1 h2;subst h1 h2;refine gI.same hs (x:=.slice none 0 0) ?_ (.inl .aF);rw[lA he hsi rfl hi ats ty hat hz hlo (OF _) c.w (hfc c.w λ_ _=>rfl)]
  ·rename_i hn0;split at h
   ·rename_i hrm;injection h with h;injection h with h1 h2;subst h1 h2;obtain⟨nc,rest,g1,g2,g3⟩:=jX he hsi rfl hi ats ty hat hz (y:=.slice none 0 0) rfl hlo (by omega) (by simpa using HM hrm (Nat.pos_of_ne_zero hn0)) c.w (olds:=[]) (λ_ _=>rfl) hfc;simp only[dh,cz]at g1 g2 g3;obtain⟨c',q1,q2,q3,q4,q5⟩:=mK hs hi hnV hok hnl g2 g1;exact⟨c',_,by rw[g3,q1],q2,q3,q4,q5⟩
   ·cases h
 ·
  rename_i g xs full;obtain⟨blk,off,sp,cap,sz,rfl,hi',hc,hf,hr⟩:=hsv.nP;split at h
  ·rename_i hn0;subst hn0;injection h with h;injection h with h1 h2;subst h1 h2;have hnil:news=[]:=by cases news <;> simp_all
   subst hnil;refine gI.same hs (x:=.slice (some ⟨blk,off,sp⟩) xs.length cap) ?_ hsv;rw[lA he hsi rfl hi ats ty hat hz hlo (by omega) c.w (hfc c.w λ_ _=>rfl)];simp[storeCells]
  ·rename_i hn0;split at h
   ·rename_i hcd;simp only[ai]at hcd;injection h with h;injection h with h1 h2;subst h1 h2;have hcap:=hf hcd.1.1;have hel2:elems c.Z i.size (.bS g xs full)=some (xs.flatten,xs.length):=by simp[elems,hcd.1.2]
    obtain⟨olds,hoV,hol,hofc,_,hook⟩:=lV (P:=P) hs hel2 hsv;obtain⟨nc,rest,g1,g2,g3⟩:=jX he hsi rfl hi ats ty hat hz rfl hlo (by omega) (sR hcd.2 (by omega)) c.w hofc hfc;obtain⟨c',q1,q2,q3,q4,q5⟩:=mK hs hi (hoV.append hnV) (pF hook hok) (by simp[hol,hnl,Nat.add_mul]) g2 g1;exact⟨c',_,by rw[g3,q1],q2,q3,q4,q5⟩
   ·cases h
 ·
  rename_i b off len cap;obtain⟨cap',rfl,hb,hl,hk1,hk2⟩:=hsv.mD;split at h
  case h_2=>cases h
  rename_i t cs ex hob;split at h
  ·cases h
  rename_i hform;simp only[gw,qf,ai,gr,aa]at hform;obtain⟨⟨rfl,hle⟩,hrm⟩:=hform;obtain⟨arr,a1,a2,⟨i',a3,a3'⟩,a4,a5,a6,a7⟩:=(hs.obj b _ hob).iS;have hii:i'=i:=by rw[hi]at a3;exact (dc a3).symm
  subst hii;have hlv:live c.Z b:=⟨_,hob,rfl⟩;have hsz:0<i'.size:=Nat.pos_of_ne_zero hpl.2;have hel2:elems c.Z i'.size (.sl b off len cap)=some ((cs.drop off).take (len*i'.size),len):=by simp[elems,hob,hle]
  obtain⟨olds,hoV,hol,hofc,_,hook⟩:=lV (P:=P) hs hel2 hsv
  have inplace:len+n<=cap'->off+(len+n)*i'.size<=cs.length ->
    gI E c ((Builtin.append_ ats ty #[.slice (some ⟨c.blk b,off,none⟩) len cap',x]).run P c.w) (.sl b off (len+n) cap) (c.Z.set b (.cells t (setCells cs (off+len*i'.size) new) ex)):=by
   intro h1 h2;obtain⟨c',p1,p2,p3,p4⟩:=AE (P:=P) hs hob (off:=off+len*i'.size) hnV hok (by have:=hnV.len;rw[og]at h2;omega);refine⟨c',.slice (some ⟨c.blk b,off,none⟩) (len+n) cap',?_,p2,p3,p4,?_⟩
   ·rw[lA he hsi rfl hi ats ty hat hz hlo h1 c.w (hfc c.w λ_ _=>rfl)];simp only[Addr.add_lit,p1,Result.andThen_ok]
   ·rw[<- p3.blk b hb];exact .sl _ _ _ _ _ (iu hb p3.len) h1 hk1 (λe=>by rw[p3.yD b hb,p3.tot b hb];exact hk2 e)
  have realloc:cap'<len+n ->
    gI E c ((Builtin.append_ ats ty #[.slice (some ⟨c.blk b,off,none⟩) len cap',x]).run P c.w) (.sl c.Z.length 0 (len+n) none) (c.Z++[.cells t ((cs.drop off).take (len*i'.size)++new) false]):=by
   intro h1;obtain⟨nc,rest,g1,g2,g3⟩:=jX he hsi rfl hi ats ty hat hz rfl hlo h1 (sR hrm h1) c.w hofc hfc;obtain⟨c',q1,q2,q3,q4,q5⟩:=mK hs hi (hoV.append hnV) (pF hook hok) (by simp[hol,hnl,Nat.add_mul]) g2 g1;exact⟨c',_,by rw[g3,q1],q2,q3,q4,q5⟩
  split at h
  ·rename_i k;have hck:=hk1 k rfl;split at h
   ·rename_i hlek;split at h
    ·rename_i hfit;injection h with h;injection h with h1 h2;subst h1 h2;exact inplace (by omega) (by simpa using hfit)
    ·cases h
   ·rename_i hlek;injection h with h;injection h with h1 h2;subst h1 h2;exact realloc (by omega)
  ·have htot:=hk2 rfl;rw[a3']at htot;split at h
   ·rename_i hfit;injection h with h;injection h with h1 h2;subst h1 h2;have hfit':off+(len+n)*i'.size<=cs.length:=by simpa using hfit
    refine inplace ?_ hfit';have:(len+n)*i'.size<=cap'*i'.size:=by omega
    exact Nat.le_of_mul_le_mul_right this hsz
   ·rename_i hfit;have hfit':¬ off+(len+n)*i'.size<=cs.length:=by simpa using hfit
    split at h
    ·rename_i hex;injection h with h;injection h with h1 h2;subst h1 h2;refine realloc ?_;have:=a5 hex;apply Nat.lt_of_not_le;intro hge;have:(len+n)*i'.size<=cap'*i'.size:=gq _ hge;omega
    ·split at h
     ·rename_i hoff;subst hoff;injection h with h;injection h with h1 h2;subst h1 h2;by_cases hin:len+n<=cap'
      ·
       obtain⟨vals,hvals⟩:∃vals:List Value,vals=arr.toList.take (len*i'.size)++news++arr.toList.drop (len*i'.size+news.length):=⟨_,rfl⟩;have hnv:=hnV.len
       have hroom:len*i'.size+news.length<=arr.size:=by
        have:(len+n)*i'.size<=cap'*i'.size:=gq _ hin;rw[og]at this;omega
       have hrun:=run_storeCells_at (P:=P) (c.blk b) 0 t news (len*i'.size) arr c.w a1 (by omega) (hnV.lH hok);rw[wB a1]at hrun;simp only[dh]at hrun;rw[<- hvals]at hrun;have hvl:vals.toArray.size=arr.size:=by rw[hvals];simp;omega
       let c1:Cx:=c.put b (.cells vals.toArray t (0,0)) .dead
       have e1:Ext c c1:=Cx.mG hlv _ _;have s1:SR E c1:=Cx.uT hs hlv _ _ trivial
       let c2:Cx:={ c1 with Z:=c1.Z++[.cells t (cs.take (len*i'.size)++new) false],blk:=λx=>if x=c.Z.length then c.blk b else c.blk x,tot:=λx=>if x=c.Z.length then c.tot b else c.tot x,yD:=λx=>if x=c.Z.length then c.yD b else c.yD x }
       have hln:c1.Z.length=c.Z.length:=by simp[c1,Cx.put]
       have liv:∀b',live c2.Z b'->(live c.Z b'/\b'≠b/\b'<c.Z.length)\/b'=c.Z.length:=by
        intro b' hb';rcases gZ hb' with hb' | ⟨hb',_⟩
        ·have:=gA hb';exact .inl ⟨this.1,this.2,dX this.1⟩
        ·exact .inr (by rw[hb',hln])
       have e2:Ext c c2:=by
        refine⟨e1.size,λk hk ho=>⟨(e1.keep k hk ho).1,?_⟩,by simp[c2,c1,Cx.put],λb' hb'=>by simp[c2,Nat.ne_of_lt hb'],λb' hb'=>by simp[c2,Nat.ne_of_lt hb'],λb' hb'=>by simp[c2,Nat.ne_of_lt hb'],rfl,rfl,rfl,rfl⟩;rintro⟨b',hl',hbk⟩;rcases liv b' hl' with⟨g1,_,g3⟩ | rfl
        ·exact ho ⟨b',g1,by simpa [c2,Nat.ne_of_lt g3]using hbk⟩
        ·exact ho ⟨b,hlv,by simpa [c2]using hbk⟩
       have hV2:fD c2 (cs.take (len*i'.size)++new) (arr.toList.take (len*i'.size)++news):=by
        have:=(a6.take (len*i'.size)).append hnV;rw[nq,ju (by omega)]at this;exact fD.mono e2 this
       have hheap:c2.w.heap[c.blk b]?=some (.cells vals.toArray t (0,0)):=by
        have:=jC a1;simp[c2,c1,Cx.put,this]
       have s2:SR E c2:=by
        refine⟨λb1 b2 h1 h2 e=>?_,λb' o' hb'=>?_,λb' hl'=>?_,λk hk=>s1.iX k hk,p_ e2 hs.gl⟩
        ·rcases liv b1 h1 with⟨g1,g2,g3⟩ | rfl <;> rcases liv b2 h2 with⟨k1,k2,k3⟩ | rfl
         ·exact hs.inj b1 b2 g1 k1 (by simpa [c2,Nat.ne_of_lt g3,Nat.ne_of_lt k3]using e)
         ·exact absurd (hs.inj b1 b g1 hlv (by simpa [c2,Nat.ne_of_lt g3]using e)) g2
         ·exact absurd (hs.inj b2 b k1 hlv (by simpa [c2,Nat.ne_of_lt k3]using e.symm)) k2
         ·rfl
        ·by_cases hl':live c2.Z b'
         ·rcases liv b' hl' with⟨g1,g2,g3⟩ | rfl
          ·have hb2:(c.Z.set b .dead++[.cells t (cs.take (len*i'.size)++new) false])[b']?=some o':=hb';rw[b8 (by simpa using g3),No (λe=>g2 e.symm)]at hb2;refine (hs.obj b' o' hb2).mono e2 g3 ?_;have:c.blk b≠c.blk b':=λe=>g2 (hs.inj b b' hlv g1 e).symm;simp[c2,c1,Cx.put,this]
          ·have hb2:(c.Z.set b .dead++[.cells t (cs.take (len*i'.size)++new) false])[c.Z.length]?=some o':=hb';rw[br (by simp)]at hb2;simp at hb2;subst hb2;refine uI.vP (arr:=vals.toArray) (xs:=arr.toList.take (len*i'.size)++news) (ys:=arr.toList.drop (len*i'.size+news.length)) ?_ ?_ ⟨i',hi,?_⟩ (λh=>by cases h) (by simp[hvals]) hV2 (pF (LF (a:=0) a7) hok)
           ·simpa [c2]using hheap
           ·simp only[c2,bf];rw[hvl,a2]
           ·simp only[c2,bf];exact a3'
         ·cases o' with
          |dead=>exact True.intro
          |_=>exact (hl' ⟨_,hb',rfl⟩).elim
        ·rcases liv b' hl' with⟨g1,_,g3⟩ | rfl
         ·have:=hs.nJ b' g1;simpa [c2,c1,Cx.put,Nat.ne_of_lt g3]using this
         ·have:=hs.nJ b hlv;simpa [c2,c1,Cx.put]using this
       refine⟨c2,.slice (some ⟨c.blk b,0,none⟩) (len+n) cap',?_,rfl,e2,s2,?_⟩
       ·rw[lA he hsi rfl hi ats ty hat hz hlo hin c.w (hfc c.w λ_ _=>rfl)]
        have hst:(storeCells ((⟨c.blk b,0,none⟩:Addr).add (len*i'.size)) news 0).run P c.w=(storeCells ⟨c.blk b,0,none⟩ news (len*i'.size)).run P c.w:=by
         have hrun':=run_storeCells_at (P:=P) (c.blk b) (len*i'.size) t news 0 arr c.w a1 (by omega) (hnV.lH hok);rw[wB a1]at hrun';simp only[lg]at hrun';rw[<- hvals]at hrun';rw[Addr.add_lit,dh,hrun',hrun]
        dsimp only;rw[hst,hrun];rfl
       ·have:c2.blk c.Z.length=c.blk b:=by simp[c2]
        rw[<- this];refine .sl _ _ _ _ _ (by simp[c2,c1,Cx.put]) hin (λk hk=>by cases hk) (λ_=>?_);simp only[c2,bf];rw[a3'];exact htot
      ·
       obtain⟨nc,rest,g1,g2,g3⟩:=jX he hsi rfl hi ats ty hat hz rfl hlo (by omega) (sR hrm (by omega)) c.w hofc hfc;have e1:=c.vF b;obtain⟨c',q1,q2,q3,q4,q5⟩:=mK (Cx.L0 hs b) hi (fD.mono e1 (hoV.append hnV)) (pF hook hok) (len:=len+n) (by simp[hol,hnl,Nat.add_mul]) g2 g1;refine⟨c',.slice (some ⟨c.w.heap.size,0,none⟩) (len+n) nc,by rw[g3,q1];rfl,?_,e1.trans q3,q4,?_⟩
       ·rw[q2];simp[Cx.kill]
       ·simpa [Cx.kill]using q5
     ·cases h
 ·cases h
end
end
end Go.Ax
end
