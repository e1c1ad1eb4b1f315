/- Part 14 of the proof. -/
import Derived.Test.YtmbikbgdbbcbmaaGreatDoorY
import Derived.Test.YtmbikbgdbbcbmaaGreatDoorZ13
import Derived.Sort.MapsRangeIn
import Derived.RangeFuncFrom
import Derived.RangeFuncGives
import Derived.Test.YtmbikbgdbbcbmaaGreatDoorZ3
import Derived.Shelf.SlIter.Collect
import Derived.Shelf.AbstractIn
import Derived.Shelf.SortM.SortNone
import Derived.Shelf.SlSortCmp.NoneTotal
import Derived.Ground.SlsfProg
import Derived.Ground.SlgmProg
import Derived.Test.YtmbikbgdbbcbmaaGreatDoorProg
import Derived.Test.YtmbikbgdbbcbmaaGreatDoorZ2
import Derived.Sort.OwnSorted
import Derived.Shelf.SortM.Plain
import Derived.Test.YtmbikbgdbbcbmaaGreatDoorZ4
import Derived.Test.YtmbikbgdbbcbmaaGreatDoorZ5
import Derived.Test.YtmbikbgdbbcbmaaGreatDoorZ6
import Derived.Test.YtmbikbgdbbcbmaaGreatDoorZ7
import Derived.Test.YtmbikbgdbbcbmaaGreatDoorZ8
import Derived.Test.YtmbikbgdbbcbmaaGreatDoorZ9
import Derived.Test.YtmbikbgdbbcbmaaGreatDoorZ10
import Derived.Test.YtmbikbgdbbcbmaaGreatDoorZ11
import Derived.Test.YtmbikbgdbbcbmaaGreatDoorZ12
import Derived.Test.YtmbikbgdbbcbmaaGreatDoorZ0
set_option maxHeartbeats 8000000
set_option linter.unusedVariables false
open Nat renaming reduceEqDiff→δ,reduceLT→ε,reduceAdd→μ,ne_of_lt→aw,beq→ca,ble→gd,le_max_left→pd,reduceSub→se
open Go.Proofs.Tryz renaming prog→κ,underlying9→aE,underlying3→cD,underlying4→dE,f159→eh,underlying5→fy,f80→pf,zeroValue9→pi,underlying24→py,zeroValue3→rg,zeroValue5→rh,underlying151→rq,underlying186→rr
open Go renaming Value→ο,Operand→χ,World→Γ,MapEntry→ad,Program→ar,Oper→cd,KeepsWalks→ml
open Go.Sem renaming run_bind→υ,run_pure→ψ
open Go.Ax.V renaming str→ab
open Go.Ax renaming setCells→ac,bytes→fY
open Go.World renaming putObj_heap_other→ba,alloc_heap_new→fw,cell?→nl,putObj_heap_same→oR
open Go.Op renaming bytesLess→bi
open Go.Result renaming andThen→m5
open List renaming eq_nil_of_length_eq_zero→m9,mem_map_of_mem→qx
open Go.Fence renaming wide→oT
open Go.MapKept renaming Stamped→oY
open List.Perm renaming trans→ph,eq_of_pairwise→rb
section
namespace Go.Ax
open Go Go.Proofs
section
section
variable {E:Env}
theorem reg0{n:Nat}{fr:Fr}{Z:Sg}{Q:X->Fr->Sg->Prop}(hn:fr.n=119)(q:∀fr':Fr,fr'.n=119->(∀t,t<4->fr'.get t=fr.get t)->Q .normal fr' Z):eV E (n+1) (bk [0]) fr Z Q:=by
 simp only[bk,Cm,aA,eh,ay];simp only[dI,cV,eA,cE,aS,ofValue,bI,bf,cW,bN,lD,comp,ck];refine q _ ?_ ?_
 ·simp only[Fr.a_,hn]
 ·exact λt ht=>by simp only[Fr.aJ];repeat (rw[an (by omega)])
theorem reg1(h196:E.ty 209=some { kd:=.map 9 3,size:=1,bytes:=8,zero:=.cA })(h111:E.ty 107=some { kd:=.map 9 24,size:=1,bytes:=8,zero:=.cA })(h44:E.ty 24=some { kd:=.sl 9,size:=1,bytes:=24,zero:=.aG })
  (h9:E.ty 9=some { kd:=.str,size:=1,bytes:=16,zero:=.str [] })(h3:E.ty 3=some { kd:=.int .i64,size:=1,bytes:=8,zero:=.int .i64 0 })(h4:E.ty 4=some { kd:=.bool,size:=1,bytes:=1,zero:=.bool false })
  {n:Nat}{fr:Fr}{f:List Nat}{Q:X->Fr->Sg->Prop}(hn:fr.n=119)(g1:fr.get 1=some (.str f))(q:∀fr':Fr,fr'.n=119->fr'.get 5=some (.ref 1 0)->(∀t,t<4->fr'.get t=fr.get t)->Q .normal fr' [.map [(.str f,.int .i64 ((0:Nat):Int))],.cells 209 [.mp 0] true]):eV E (n+1) (bk [1,0]) fr [] Q:=by
 have hm:kX jZ (.str f) (.int .i64 0) []=some [(.str f,.int .i64 ((0:Nat):Int))]:=rfl;simp only[bk,Cm,aA,eh,ay];simp only[dI,cV,eA,cE,aS,ofValue,bI,bf,cW,bN,lD,comp,aT,dZ,kG,tD,mV,qK,ck,Fr.aJ,Fr.a_,hn,bh,cm,δ,ε,da,b9,h196,h9,storeAt,eH,cH h9,mapUpdate,fG,V.aZ,dm,j8,ai,qa,qi,qf,IT,aq,V.cells,ac,jq,cz,mz,gy,kj,nt,dc,iy,ki,OF,mc,g1,hm,ey];refine q _ ?_ ?_ ?_
 ·simp only[Fr.a_,hn]
 ·simp only[Fr.aJ,Fr.a_,hn,δ,ε,da,bf,b9]
 ·exact λt ht=>by simp only[Fr.aJ];repeat (rw[an (by omega)])
theorem reg2{n:Nat}{fr:Fr}{Z:Sg}{Q:X->Fr->Sg->Prop}(hn:fr.n=119)(q:∀fr':Fr,fr'.n=119->fr'.get 6=some (.bool true)->(∀t,t<6->fr'.get t=fr.get t)->Q .normal fr' Z):eV E (n+1) (bk [1,1,0,0]) fr Z Q:=by
 simp only[bk,Cm,aA,eh,ay];simp only[dI,cV,eA,cE,aS,ofValue,bI,bf,cW,bN,lD,comp,ck];refine q _ ?_ ?_ ?_
 ·simp only[Fr.a_,hn]
 ·simp only[Fr.aJ,hn,ε,da,bf]
 ·exact λt ht=>by simp only[Fr.aJ];repeat (rw[an (by omega)])
theorem ZJ(h196:E.ty 209=some { kd:=.map 9 3,size:=1,bytes:=8,zero:=.cA })(h111:E.ty 107=some { kd:=.map 9 24,size:=1,bytes:=8,zero:=.cA })(h44:E.ty 24=some { kd:=.sl 9,size:=1,bytes:=24,zero:=.aG })
  (h9:E.ty 9=some { kd:=.str,size:=1,bytes:=16,zero:=.str [] })(h3:E.ty 3=some { kd:=.int .i64,size:=1,bytes:=8,zero:=.int .i64 0 })(h4:E.ty 4=some { kd:=.bool,size:=1,bytes:=1,zero:=.bool false })
  {n:Nat}{fr:Fr}{Z:Sg}{Q:X->Fr->Sg->Prop}(hn:fr.n=119)(q:∀fr':Fr,fr'.n=119->fr'.get 15=some (.ref Z.length 0)->(∀t,t<15->fr'.get t=fr.get t)->Q .normal fr' (Z++[.cells 3 [.int .i64 (tV none)] true])):eV E (n+1) (bk [1,1,1,0]) fr Z Q:=by
 have h1:(Z++[O.cells 3 [.int .i64 0] true])[Z.length]?=some (.cells 3 [.int .i64 0] true):=by simp
 have h2:∀x,(Z++[O.cells 3 [.int .i64 0] true]).set Z.length x=Z++[x]:=λx=>by simp
 simp only[bk,Cm,aA,eh,ay];simp only[dI,cV,eA,cE,aS,ofValue,bI,bf,cW,bN,lD,comp,ck,hn,tD,h3,V.cells,kG,Fr.aJ,ε,da,bf,storeAt,h1,h2,IT,aq,qi,iy,ki,V.aZ,me,dc,OF,qf,ac,jq,cz,mz,mc,gy];refine q _ ?_ ?_ ?_
 ·simp only[Fr.a_,hn]
 ·simp only[Fr.aJ,hn,ε,da,bf]
 ·exact λt ht=>by simp only[Fr.aJ];repeat (rw[an (by omega)])
theorem ZI(h196:E.ty 209=some { kd:=.map 9 3,size:=1,bytes:=8,zero:=.cA })(h111:E.ty 107=some { kd:=.map 9 24,size:=1,bytes:=8,zero:=.cA })(h44:E.ty 24=some { kd:=.sl 9,size:=1,bytes:=24,zero:=.aG })
  (h9:E.ty 9=some { kd:=.str,size:=1,bytes:=16,zero:=.str [] })(h3:E.ty 3=some { kd:=.int .i64,size:=1,bytes:=8,zero:=.int .i64 0 })(h4:E.ty 4=some { kd:=.bool,size:=1,bytes:=1,zero:=.bool false })
  {n:Nat}{fr:Fr}{Z:Sg}{g:Bool}{es:List (V × V)}(hbk:gQ es){f:List Nat}{Q:X->Fr->Sg->Prop}(hn:fr.n=119)(g0:fr.get 0=some (.imp g es))(g1:fr.get 1=some (.str f))
  (q:∀fr':Fr,fr'.n=119->fr'.get 70=some (valOf es f)->fr'.get 71=some (.int .i64 ((cC es f).length:Int))->fr'.get 72=some (.int .i64 ((0:Nat):Int))->(∀t,t<17->fr'.get t=fr.get t)->Q .normal fr' Z):eV E (n+1) (bk [1,1,1,1,0,0]) fr Z Q:=by
 obtain⟨r,hr1,hr2⟩:=DV (x:=f) hbk
 have hln:lenOf E Z 24 (valOf es f)=some (cC es f).length:=by
  rcases yT (x:=f) hbk with⟨h1,h2⟩ | ⟨g,full,h1⟩
  ·rw[h1,h2];simp only[lenOf,h44,aq]
  ·rw[h1];simp only[lenOf,h44,bw]
 simp only[bk,Cm,aA,eh,ay];cases r with
 |none=>
  simp only[Option.getD_none]at hr2;rw[<- hr2]at hln;simp only[dI,cV,eA,cE,aS,eJ,ofValue,bI,bf,cW,bN,lD,comp,aT,eB,eN,builtin,ck,Fr.aJ,Fr.a_,hn,bh,cn,δ,ε,da,b9,h111,h44,h9,lookup,eH,entriesOf,cH h9,dm,ai,gw,V.cells,ac,g0,g1,hr1,hln];refine q _ ?_ ?_ ?_ ?_ ?_
  ·simp only[Fr.a_,hn]
  ·simp only[Fr.aJ,Fr.a_,hn,δ,ε,da,bf,b9,hr2]
  ·simp only[Fr.aJ,Fr.a_,hn,δ,ε,da,bf,b9]
  ·simp only[Fr.aJ,Fr.a_,hn,δ,ε,da,bf,b9];rfl
  ·exact λt ht=>by simp only[Fr.aJ];repeat (rw[an (by omega)])
 |some v=>
  simp only[ay]at hr2;rw[<- hr2]at hln;simp only[dI,cV,eA,cE,aS,eJ,ofValue,bI,bf,cW,bN,lD,comp,aT,eB,eN,builtin,ck,Fr.aJ,Fr.a_,hn,bh,cn,δ,ε,da,b9,h111,h44,h9,lookup,eH,entriesOf,cH h9,dm,ai,gw,V.cells,ac,g0,g1,hr1,hln];refine q _ ?_ ?_ ?_ ?_ ?_
  ·simp only[Fr.a_,hn]
  ·simp only[Fr.aJ,Fr.a_,hn,δ,ε,da,bf,b9,hr2]
  ·simp only[Fr.aJ,Fr.a_,hn,δ,ε,da,bf,b9]
  ·simp only[Fr.aJ,Fr.a_,hn,δ,ε,da,bf,b9];rfl
  ·exact λt ht=>by simp only[Fr.aJ];repeat (rw[an (by omega)])
theorem ZH(h196:E.ty 209=some { kd:=.map 9 3,size:=1,bytes:=8,zero:=.cA })(h111:E.ty 107=some { kd:=.map 9 24,size:=1,bytes:=8,zero:=.cA })(h44:E.ty 24=some { kd:=.sl 9,size:=1,bytes:=24,zero:=.aG })
  (h9:E.ty 9=some { kd:=.str,size:=1,bytes:=16,zero:=.str [] })(h3:E.ty 3=some { kd:=.int .i64,size:=1,bytes:=8,zero:=.int .i64 0 })(h4:E.ty 4=some { kd:=.bool,size:=1,bytes:=1,zero:=.bool false })
  {n:Nat}{fr:Fr}{Z:Sg}{B:Nat}{acc:Option Nat}(sB:Z[B]?=some (.cells 3 [.int .i64 (tV acc)] true)){Q:X->Fr->Sg->Prop}(hn:fr.n=119)(g15:fr.get 15=some (.ref B 0))
  (q0:acc=none->∀fr':Fr,fr'.get 4=some .aG->Q .ret fr' Z)(q1:∀b,acc=some b->∀fr':Fr,fr'.n=119->(∀t,t<94->fr'.get t=fr.get t)->Q .normal fr' Z):eV E (n+5) (bk [1,1,1,1,1,0]) fr Z Q:=by
 simp only[bk,Cm,aA,eh,ay];cases acc with
 |none=>
  have hc:decide (tV none<0)=true:=by decide
  simp only[fC,Gq,dA,fD,dI,cV,eA,cE,aS,ofValue,bI,bf,cW,bN,lD,comp,iS,eY,ck,Fr.aJ,Fr.a_,hn,bh,δ,ε,da,b9,h3,loadAt,isAgg,bin,arith,ai,jH,g15,sB,hc];refine q0 rfl _ ?_;simp only[Fr.aJ,Fr.a_,hn,δ,ε,da,bf,b9]
 |some b=>
  have hc:decide (tV (some b)<0)=false:=AS (by simp only[tV];omega);simp only[fC,Gq,dA,fD,dI,cV,eA,cE,aS,ofValue,bI,bf,cW,bN,lD,comp,iS,eY,ck,Fr.aJ,Fr.a_,hn,bh,δ,ε,da,b9,h3,loadAt,isAgg,bin,arith,ai,jH,g15,sB,hc];refine q1 b rfl _ ?_ ?_
  ·simp only[Fr.a_,hn]
  ·exact λt ht=>by simp only[Fr.aJ];repeat (rw[an (by omega)])
theorem ZG(h196:E.ty 209=some { kd:=.map 9 3,size:=1,bytes:=8,zero:=.cA })(h111:E.ty 107=some { kd:=.map 9 24,size:=1,bytes:=8,zero:=.cA })(h44:E.ty 24=some { kd:=.sl 9,size:=1,bytes:=24,zero:=.aG })
  (h9:E.ty 9=some { kd:=.str,size:=1,bytes:=16,zero:=.str [] })(h3:E.ty 3=some { kd:=.int .i64,size:=1,bytes:=8,zero:=.int .i64 0 })(h4:E.ty 4=some { kd:=.bool,size:=1,bytes:=1,zero:=.bool false })
  {n:Nat}{fr:Fr}{Z:Sg}{f:List Nat}{Q:X->Fr->Sg->Prop}(hn:fr.n=119)(g1:fr.get 1=some (.str f))(q:∀fr':Fr,fr'.n=119->fr'.get 20=some (.sl Z.length 0 1 none)->(∀t,t<20->fr'.get t=fr.get t)->Q .normal fr' (Z++[.cells 9 [.str f] true])):eV E (n+1) (bk [1,1,1,1,1,1,0]) fr Z Q:=by
 have hl:=Mr h196 h111 h44 h9 h3 h4 (fr:=fr.put 96 (.str f)) (Z:=Z) (x:=96) (s:=f) (by simp only[aS,Fr.aJ,hn,ε,da,bf]);simp only[bk,Cm,aA,eh,ay];simp only[dI,cV,eA,cE,aS,bf,cW,bN,lD,comp,Fz.lits,ck,Fr.aJ,Fr.a_,hn,δ,ε,da,b9,ai,g1,hl];refine q _ ?_ ?_ ?_
 ·simp only[Fr.a_,hn]
 ·simp only[Fr.aJ,Fr.a_,hn,δ,ε,da,bf,b9]
 ·exact λt ht=>by simp only[Fr.aJ];repeat (rw[an (by omega)])
theorem ZF{n:Nat}{fr:Fr}{Z:Sg}{f:List Nat}{Q:X->Fr->Sg->Prop}(hn:fr.n=119)(g1:fr.get 1=some (.str f))(q:∀fr':Fr,fr'.n=119->fr'.get 21=some (.str f)->(∀t,t<21->fr'.get t=fr.get t)->Q .normal fr' Z):eV E (n+1) (bk [1,1,1,1,1,1,1,0,0]) fr Z Q:=by
 simp only[bk,Cm,aA,eh,ay];simp only[dI,cV,eA,cE,aS,bf,cW,bN,lD,comp,ck,hn,g1,Fr.aJ,ε,da];refine q _ ?_ ?_ ?_
 ·simp only[Fr.a_,hn]
 ·simp only[Fr.aJ,Fr.a_,hn,δ,ε,da,bf,b9]
 ·exact λt ht=>by simp only[Fr.aJ];repeat (rw[an (by omega)])
theorem ZE{n:Nat}{fr:Fr}{Z:Sg}{v:V}{Q:X->Fr->Sg->Prop}(hn:fr.n=119)(g20:fr.get 20=some v)(q:∀fr':Fr,fr'.get 4=some v->Q .ret fr' Z):eV E (n+3) (bk [1,1,1,1,1,1,1,1]) fr Z Q:=by
 simp only[bk,Cm,aA,eh,ay];simp only[dA,Gq,dI,cV,eA,cE,aS,bf,cW,bN,lD,comp,ck,hn,g20,Fr.aJ,ε,da];refine q _ ?_;simp only[Fr.aJ,Fr.a_,hn,δ,ε,da,bf,b9]
theorem NG(h196:E.ty 209=some { kd:=.map 9 3,size:=1,bytes:=8,zero:=.cA })(h111:E.ty 107=some { kd:=.map 9 24,size:=1,bytes:=8,zero:=.cA })(h44:E.ty 24=some { kd:=.sl 9,size:=1,bytes:=24,zero:=.aG })
  (h9:E.ty 9=some { kd:=.str,size:=1,bytes:=16,zero:=.str [] })(h3:E.ty 3=some { kd:=.int .i64,size:=1,bytes:=8,zero:=.int .i64 0 })(h4:E.ty 4=some { kd:=.bool,size:=1,bytes:=1,zero:=.bool false })(f1:E.hspec 80=none)(f2:E.spec 80=none)(f3:E.fn 80=some (aA pf))(f4:E.mode 80=.eW)(f5:E.hspec 190=none)(f6:E.spec 190=none)(f7:E.fn 190=some (aA Tryz.f190))(f8:E.mode 190=.shared)
  {es:List (V × V)}{f:List Nat}{g:Bool}(hbk:gQ es)(hnd:(es.map ks).Nodup){fe:List (V × V)}(hok:nJ fe)(hfar:∀x,bC fe x=uK es f x){B:Nat}(hB:2<=B){K:Nat}(hK:K<=4000000000000000000)(hl:∀x,(cC es x).length<=K)(N:Nat) :
  ∀(b:Nat)(at_:List Nat)(cs:List V)(ex:Bool)(C:Nat)(fr:Fr)(Z:Sg),b<=1000000->(b=0\/∃nx∈cC es at_,uK es f nx=some b)->cs.length+b<=2000000->fr.n=119->fr.get 0=some (.imp g es)->fr.get 5=some (.ref 1 0)->fr.get 15=some (.ref B 0)->fr.get 20=some (.sl C 0 cs.length none)->fr.get 21=some (.str at_) ->
   Z[0]?=some (.map fe)->Z[1]?=some (.cells 209 [.mp 0] true)->Z[B]?=some (.cells 3 [.int .i64 (b:Int)] true)->Z[C]?=some (.cells 9 cs ex)->B≠C->2<=C ->
   eV E (N+K+b+71) (.loop (bk [1,1,1,1,1,1,1,0,1,2,2])) fr Z λx fr' σ'=>x=.exit 8/\fr'.n=119/\∃C',fr'.get 20=some (.sl C' 0 (cs++(uP es (d_ es es.length [f]) at_ b).map ab).length none)/\σ'[C']?=some (.cells 9 (cs++(uP es (d_ es es.length [f]) at_ b).map ab) (ex&&ca b 0)):=by
 intro b
 induction b with
 |zero=>
  intro at_ cs ex C fr Z hb hex hln hn g0 g5 g15 g20 g21 s0 s1 sB sC hBC hC;show eV E ((N+K+70)+1) _ _ _ _;rw[oE];refine De h196 h111 h44 h9 h3 h4 f1 f2 f3 f4 f5 f6 f7 f8 hbk hok hn g0 g5 g15 g20 g21 s0 s1 sB sC hBC hB hC (by omega) hb hK (hl at_) N (λ_ fr' k1 k2=>?_) (λh=>absurd h (bt _));refine⟨rfl,k1,C,?_,?_⟩
  ·rw[k2 20 (by omega)];simpa [uP]using g20
  ·simpa [uP]using sC
 |succ b ih=>
  intro at_ cs ex C fr Z hb hex hln hn g0 g5 g15 g20 g21 s0 s1 sB sC hBC hC;have hf0:N+K+(b+1)+71=((N+b+1)+K+70)+1:=by omega
  rw[hf0,oE];refine De h196 h111 h44 h9 h3 h4 f1 f2 f3 f4 f5 f6 f7 f8 hbk hok hn g0 g5 g15 g20 g21 s0 s1 sB sC hBC hB hC (by omega) hb hK (hl at_) (N+b+1) (λh=>by omega) (λ_=>?_);have hex':∃nx∈cC es at_,gE nx (d_ es es.length [f])=some (b+1):=hex.resolve_left (by omega);obtain⟨idx,a,h1,h2,h3',h4'⟩:=Bt _ _ _ hex';refine⟨idx,a,h1,by rw[hfar];exact h3',λj x hj hx=>by rw[hfar];exact h4' j x hj hx,?_⟩;intro fr' σ' C' k1 k2 k3 k4 t0 t1 tB tC hBC' hC';have hway:uP es (d_ es es.length [f]) at_ (b+1)=a::uP es (d_ es es.length [f]) a b:=by simp only[uP,h2]
  have hex2:b=0\/∃nx∈cC es a,uK es f nx=some b:=.inr (Oj hbk hnd h3');have:=ih a (cs++[.str a]) false C' fr' σ' (by omega) hex2 (by simp;omega) k1 (by rw[k2 0 (by omega)];exact g0) (by rw[k2 5 (by omega)];exact g5) (by rw[k2 15 (by omega)];exact g15) k3 k4 t0 t1 (by simpa using tB) tC hBC' hC';rw[show (N+b+1)+K+70=N+K+b+71 by omega];refine eM _ this ?_;rintro x fr2 σ2 ⟨rfl,b1,C2,b2,b3⟩;refine⟨rfl,b1,C2,?_,?_⟩
  ·rw[hway];simpa using b2
  ·rw[hway];have e:(ex&&ca (b+1) 0)=false:=by cases ex <;> rfl
   rw[e];simpa using b3
theorem pU:∀(cs:List V),rows 1 cs.length cs=cs.map λc=>[c]
 | []=>rfl
 |c::cs=>by simp[rows,pU cs]
theorem kS(h196:E.ty 209=some { kd:=.map 9 3,size:=1,bytes:=8,zero:=.cA })(h111:E.ty 107=some { kd:=.map 9 24,size:=1,bytes:=8,zero:=.cA })(h44:E.ty 24=some { kd:=.sl 9,size:=1,bytes:=24,zero:=.aG })
  (h9:E.ty 9=some { kd:=.str,size:=1,bytes:=16,zero:=.str [] })(h3:E.ty 3=some { kd:=.int .i64,size:=1,bytes:=8,zero:=.int .i64 0 })(h4:E.ty 4=some { kd:=.bool,size:=1,bytes:=1,zero:=.bool false })
  {Z:Sg}{C:Nat}{l:List (List Nat)}{ex:Bool}(hC:Z[C]?=some (.cells 9 (l.map ab) ex)):cQ Z E.ty false (.sl C 0 (l.map ab).length none)=some (.bV false (l.map λs=>[ab s]) ex):=by
 have hs:bA Z E.ty false 12 (.sl C 0 (l.map ab).length none)=some (.bV false (l.map λs=>[ab s]) ex):=by
  rw[bA];simp only[hC,h9,dc,pg,OF,bf,ez,List.take_length];rw[wN]
  rotate_left
  ·intro x hx;obtain⟨s,_,rfl⟩:=cv.1 hx;simp[bA,cI]
  simp only[pU,js,Nat.lt_add_one,qf,me,qi];rfl
 simp only[cQ,aR,aR.one,dN,hs,cI,mg,Bool.or_true,bf]
theorem Jp(h196:E.ty 209=some { kd:=.map 9 3,size:=1,bytes:=8,zero:=.cA })(h111:E.ty 107=some { kd:=.map 9 24,size:=1,bytes:=8,zero:=.cA })(h44:E.ty 24=some { kd:=.sl 9,size:=1,bytes:=24,zero:=.aG })
  (h9:E.ty 9=some { kd:=.str,size:=1,bytes:=16,zero:=.str [] })(h3:E.ty 3=some { kd:=.int .i64,size:=1,bytes:=8,zero:=.int .i64 0 })(h4:E.ty 4=some { kd:=.bool,size:=1,bytes:=1,zero:=.bool false })(f1:E.hspec 80=none)(f2:E.spec 80=none)(f3:E.fn 80=some (aA pf))(f4:E.mode 80=.eW)(f5:E.hspec 190=none)(f6:E.spec 190=none)(f7:E.fn 190=some (aA Tryz.f190))(f8:E.mode 190=.shared)
  {es:List (V × V)}{f:List Nat}{g:Bool}(hbk:gQ es)(hnd:(es.map ks).Nodup)(hes:es.length<=1000000){K:Nat}(hK:K<=1000000)(hKl:∀e∈es,(jB e.2).length<=K):∃n,Cw E n (aA eh) [.imp g es,.str f] [] λv Z=>cQ Z E.ty false v=some (oP es f):=by
 have hnl:∀x,(cC es x).length<=K:=by
  intro x;clear hnd hes
  induction es with
  |nil=>simp[cC]
  |cons e es ih=>
   obtain⟨⟨q,hq⟩,_⟩:=hbk e (No ..);obtain⟨k',v'⟩:=e;simp only at hq;subst hq;simp only[cC];cases seq q x with
   |true=>exact hKl _ (No ..)
   |false=>exact ih hbk.tail λe he=>hKl e (ae _ he)
 obtain⟨fr0,hf0,hn0,hg0⟩:=Fr.DI (n:=(aA eh).ntmps) (vs:=[.imp g es,.str f]) (show 2<=119 by decide);have hn0:fr0.n=119:=hn0;have i0:=hg0 0 _ rfl;have i1:=hg0 1 _ rfl;have e1:(aA eh).code=.seq (bk [0]) (.seq (bk [1,0]) (.seq (.seq (bk [1,1,0,0]) (.block 0 (.loop (bk [1,1,0,1,2,2])))) (.seq (bk [1,1,1,0]) (.seq (.seq (bk [1,1,1,1,0,0]) (.block 6 (.loop (bk [1,1,1,1,0,1,2,2])))) (.seq (bk [1,1,1,1,1,0]) (.seq (bk [1,1,1,1,1,1,0]) (.seq (.seq (bk [1,1,1,1,1,1,1,0,0]) (.block 8 (.loop (bk [1,1,1,1,1,1,1,0,1,2,2])))) (bk [1,1,1,1,1,1,1,1])))))))):=rfl
 have hF0:HC es f [(.str f,.int .i64 ((0:Nat):Int))]:=by
  have hfar:∀x,bC [(.str f,.int .i64 ((0:Nat):Int))] x=if x=f then some 0 else none:=by
   intro x;simp only[bC];cases h:seq f x with
   |true=>rw[kT]at h;simp[h]
   |false=>rw[kV]at h;simp[h.symm]
  refine⟨λe he=>?_,by rw[hfar,az rfl],λx k hx=>?_,λx k hx=>?_,by simp,λk hk=>?_⟩
  ·simp only[cj]at he;exact⟨f,0,he⟩
  ·rw[hfar]at hx;split at hx
   ·rename_i e;injection hx with hx;subst hx e;exact .zero
   ·cases hx
  ·rw[hfar]at hx;split at hx
   ·cases hx;simp
   ·cases hx
  ·simp only[bj,List.map_nil,cj]at hk;subst hk;exact No ..
 obtain⟨m,hm⟩:∃m,NB es f [(.str f,.int .i64 ((0:Nat):Int))]<m:=⟨_,nq _⟩;obtain⟨S,hS⟩:∃S,S=K+es.length+m+200:=⟨_,rfl⟩;refine⟨S+30,fr0,hf0,?_⟩;rw[e1];show eV E ((S+29)+1) _ _ _ _;rw[dA];refine reg0 (n:=S+28) hn0 (λfr1 a1 a2=>?_);show eV E ((S+28)+1) _ _ _ _;rw[dA];refine reg1 h196 h111 h44 h9 h3 h4 (n:=S+27) a1 (by rw[a2 1 (by omega)];exact i1) (λfr2 b1 b2 b3=>?_);show eV E ((S+27)+1) _ _ _ _;rw[dA];show eV E ((S+26)+1) _ _ _ _;rw[dA];refine reg2 (n:=S+25) b1 (λfr3 c1 c2 c3=>?_);show eV E ((S+25)+1) _ _ _ _;rw[dB];obtain⟨N1,hN1⟩:∃N1,S+25=N1+K+es.length+m+90:=⟨135,by omega⟩;rw[hN1];refine eM _ (Kw h196 h111 h44 h9 h3 h4 hes hbk hnd (by omega:K<=4000000000000000000) hKl N1 m [] fr3 _ true (λ_=>hm) (λh=>by cases h) hF0 c1 (by rw[c3 0 (by omega),b3 0 (by omega),a2 0 (by omega)];exact i0) c2 (by rw[c3 5 (by omega)];exact b2)) ?_;rintro x fr4 σ4 ⟨rfl,fe,its,hF,hC,rfl,d1,d2⟩;simp only[bf]
 have hdist:∀x,bC fe x=uK es f x:=λx=>(hF.dist hbk hnd (λy nx hy=>by
  obtain⟨v,h1,h2⟩:=Dg hbk hy;exact hC _ h1 y rfl nx h2) x).symm
 show eV E ((S+26)+1) _ _ _ _;rw[dA];have j0:fr4.get 0=some (.imp g es):=by rw[d2 0 (by omega),c3 0 (by omega),b3 0 (by omega),a2 0 (by omega)];exact i0
 have j1:fr4.get 1=some (.str f):=by rw[d2 1 (by omega),c3 1 (by omega),b3 1 (by omega),a2 1 (by omega)];exact i1
 have j5:fr4.get 5=some (.ref 1 0):=by rw[d2 5 (by omega),c3 5 (by omega)];exact b2
 refine ZJ h196 h111 h44 h9 h3 h4 (n:=S+25) d1 (λfr5 p1 p2 p3=>?_);show eV E ((S+25)+1) _ _ _ _;rw[dA];show eV E ((S+24)+1) _ _ _ _;rw[dA];refine ZI h196 h111 h44 h9 h3 h4 (n:=S+23) hbk p1 (by rw[p3 0 (by omega)];exact j0) (by rw[p3 1 (by omega)];exact j1) (λfr6 q1 q2 q3 q4 q5=>?_);show eV E ((S+23)+1) _ _ _ _;rw[dB];have hnlf:=hnl f;obtain⟨N2,hN2⟩:∃N2,S+23=N2+(cC es f).length+21:=⟨S+2-(cC es f).length,by omega⟩;rw[hN2];refine eM _ (Oz h196 h111 h44 h9 h3 h4 (yT (x:=f) hbk) (B:=its.length+2) (by omega) hF.ok (by omega) N2 (cC es f).length 0 fr6 _ none (by omega) rfl q1 q2 q3 q4 (by rw[q5 5 (by omega),p3 5 (by omega)];exact j5) (by rw[q5 15 (by omega)];exact p2) rfl rfl (by simp)) ?_;rintro x fr7 σ7 ⟨rfl,r1,r2,s0,s1,sB⟩;simp only[bf];show eV E ((S+24)+1) _ _ _ _;rw[dA]
 have hbest:(cC es f).foldl (eS (bC fe)) none=jD (d_ es es.length [f]) (cC es f):=by
  have:=F8 (d_ es es.length [f]) (cC es f) none;rw[show (bC fe)=λx=>gE x (d_ es es.length [f]) from funext hdist,this];rfl
 rw[hbest]at sB;have k0:fr7.get 0=some (.imp g es):=by rw[r2 0 (by omega),q5 0 (by omega),p3 0 (by omega)];exact j0
 have k1:fr7.get 1=some (.str f):=by rw[r2 1 (by omega),q5 1 (by omega),p3 1 (by omega)];exact j1
 have k5:fr7.get 5=some (.ref 1 0):=by rw[r2 5 (by omega),q5 5 (by omega),p3 5 (by omega)];exact j5
 have k15:fr7.get 15=some (.ref (its.length+2) 0):=by rw[r2 15 (by omega),q5 15 (by omega)];exact p2
 show eV E ((S+19)+5) _ _ _ _;refine ZH h196 h111 h44 h9 h3 h4 sB r1 k15 (λhnone fr8 h8=>?_) (λb hsome fr8 u1 u2=>?_)
 ·refine⟨.inr rfl,[.aG],by simp only[aA,eh,results,h8],?_⟩;simp only[oP,hnone];simp[cQ,aR,aR.one,dN,bA,cI]
 ·show eV E ((S+23)+1) _ _ _ _;rw[dA];refine ZG h196 h111 h44 h9 h3 h4 (n:=S+22) u1 (by rw[u2 1 (by omega)];exact k1) (λfr9 v1 v2 v3=>?_);show eV E ((S+22)+1) _ _ _ _;rw[dA];show eV E ((S+21)+1) _ _ _ _;rw[dA];refine ZF (n:=S+20) v1 (by rw[v3 1 (by omega),u2 1 (by omega)];exact k1) (λfra w1 w2 w3=>?_);show eV E ((S+20)+1) _ _ _ _;rw[dB];rw[hsome]at sB;obtain⟨nb,nb1,nb2⟩:=Am _ _ _ hsome;have hbl:b<=es.length:=((lY hbk hnd).1 (show uK es f nb=some b from nb2)).1;obtain⟨N3,hN3⟩:∃N3,S+20=N3+K+b+71:=⟨S+20-K-b-71,by omega⟩;rw[hN3];have hBl:=(AI.1 sB).1
  have left:∀j o,σ7[j]?=some o->(σ7++[O.cells 9 [.str f] true])[j]?=some o:=λj o ho=>by
   rw[au (AI.1 ho).1];exact ho
  refine eM _ (NG h196 h111 h44 h9 h3 h4 f1 f2 f3 f4 f5 f6 f7 f8 hbk hnd hF.ok hdist (B:=its.length+2) (by omega) (by omega:K<=4000000000000000000) hnl N3 b f [.str f] true σ7.length fra _ (by omega) (.inr ⟨nb,nb1,nb2⟩) (by simp;omega) w1 (by rw[w3 0 (by omega),v3 0 (by omega),u2 0 (by omega)];exact k0) (by rw[w3 5 (by omega),v3 5 (by omega),u2 5 (by omega)];exact k5) (by rw[w3 15 (by omega),v3 15 (by omega),u2 15 (by omega)];exact k15) (by rw[w3 20 (by omega)];exact v2) w2 (left _ _ s0) (left _ _ s1) (left _ _ sB) (by simp) (by omega) (by omega)) ?_;rintro x frb σb ⟨rfl,y1,C',y2,y3⟩;simp only[bf];show eV E ((S+19)+3) _ _ _ _;refine ZE y1 y2 (λfrc z1=>?_);have e2:[ab f]++(uP es (d_ es es.length [f]) f b).map ab=(f::uP es (d_ es es.length [f]) f b).map ab:=rfl;rw[e2]at y3 z1;refine⟨.inr rfl,[_],by simp only[aA,eh,results,z1];rfl,?_⟩;have:=kS h196 h111 h44 h9 h3 h4 y3;simp only[oP,hsome];simpa using this
theorem HU(he:cG κ E)(hfs:f_ κ E)(hmix:Tryz.prog.follows .mixedOrders=true)(hF:E.fn 159=some (aA eh))(h196:E.ty 209=some { kd:=.map 9 3,size:=1,bytes:=8,zero:=.cA })(h111:E.ty 107=some { kd:=.map 9 24,size:=1,bytes:=8,zero:=.cA })(h44:E.ty 24=some { kd:=.sl 9,size:=1,bytes:=24,zero:=.aG })
  (h9:E.ty 9=some { kd:=.str,size:=1,bytes:=16,zero:=.str [] })(h3:E.ty 3=some { kd:=.int .i64,size:=1,bytes:=8,zero:=.int .i64 0 })(h4:E.ty 4=some { kd:=.bool,size:=1,bytes:=1,zero:=.bool false })(f1:E.hspec 80=none)(f2:E.spec 80=none)(f3:E.fn 80=some (aA pf))(f4:E.mode 80=.eW)(f5:E.hspec 190=none)(f6:E.spec 190=none)(f7:E.fn 190=some (aA Tryz.f190))(f8:E.mode 190=.shared):fJ κ E 159 oF:=by
 refine Gy he hfs hmix hF ?_;intro vs v h;unfold oF at h;split at h
 case h_2=>cases h
 rename_i g es f;split at h
 case h_2=>cases h
 rename_i h1 h2 hlen;cases h;rw[Nat.ble_eq]at hlen;have hbk:=yL h1;exact Jp h196 h111 h44 h9 h3 h4 f1 f2 f3 f4 f5 f6 f7 f8 hbk (EE h2 λe he=>(hbk e he).1) hlen (OF 1000000) (K0 h1)
end
end
end Go.Ax
namespace Go.Ax
open Go Go.RowKit
section
open Go.ChangeMaps (setBlock)
structure Rg (W:Γ) (b r:Nat) (left:List ο):Prop where
 ex:∃(en:Array ad) (cl:Nat) (seen:Array Nat),W.heap[r]?=some (.mapIter (some b) cl seen cl)/\W.heap[b]?=some (.map en cl)/\oY en cl/\left.Perm ((en.toList.filter λe=>!seen.contains e.born).map (·.key))
theorem Rg.kept{W W':Γ}{b r:Nat}{left:List ο}(h:Rg W b r left)(hk:ml W W'):Rg W' b r left:=by
 obtain⟨en,cl,seen,h1,h2,h3,h4⟩:=h.ex;exact⟨en,cl,seen,hk.same r _ h1 rfl,hk.same b _ h2 rfl,h3,h4⟩
def Da(W:Γ)(b r:Nat):Nat:=match W.heap[r]?,W.heap[b]? with
 |some (.mapIter _ _ seen _),some (.map en _)=>(en.toList.filter λe=>!seen.contains e.born).length
 |_,_=>0
theorem Rg.left_eq{W:Γ}{b r:Nat}{left:List ο}(h:Rg W b r left):Da W b r=left.length:=by
 obtain⟨en,cl,seen,h1,h2,_,h4⟩:=h.ex;have:=h4.length_eq;simp only[Da,h1,h2,this,bw]
theorem Rg.walk{W:Γ}{b r:Nat}{left:List ο}(h:Rg W b r left):∃o:Obj,W.heap[r]?=some o/\o.isWalk=true:=by
 obtain⟨en,cl,seen,h1,_⟩:=h.ex;exact⟨_,h1,rfl⟩
section
variable {F:Fence}{n:Nat}{P:ar} (w:Γ) {ops:Array cd}{rest:List cd}{o:cd}{a:Act}{Q:Exit->Act->Γ->Prop}
theorem mN(hg:o.guard=none)(m:χ)(t:TypeId)(hop:o.op=Op.range t m)(k e:TypeId)(ht:P.underlying t=some (.map k e))(b:Nat)(en:Array ad)(cl:Nat)
  (hm:a.eval m=.map (some b))(hb:w.heap[b]?=some (.map en cl))(hst:oY en cl)
  (hK:∀w',Rg w' b w.heap.size (en.toList.map (·.key))->w.grownBy w' none->w'.heap.size=w.heap.size+1->wpListIn F n P ops Q rest (a.put o.dst (.pointer (some ⟨w.heap.size,0,none⟩))) w') :
  wpListIn F n P ops Q (o::rest) a w:=by
 refine wpListIn_plain hg λK' hK'=>?_
 have hr:(Instr.range t (.map (some b))).run P w=.ok (.pointer (some ⟨w.heap.size,0,none⟩)) (w.alloc (.mapIter (some b) cl #[] cl)):=by
  simp only[Instr.range,υ,run_underlying ht,getObj,Sem.run,hb,m5];rfl
 have hblt:=(cg.1 hb).1;unfold Oper.wpIn;refine⟨?_,?_⟩
 ·simp[Oper.about,hop]
 ·rw[Oper.semAt_plain F _ _ (by rw[hop];intro c hc';cases hc')];simp only[execOp,hop,hm,hr,m5,υ,ψ];refine hK' _ _ (hK _ ⟨en,cl,#[],fw w _,(Below.heap_alloc w _ b hblt).trans hb,hst,?_⟩ (World.grownBy_alloc w _ none) (by simp));rw[my.2 (λe _=>by simp)]
theorem nK(hg:o.guard=none)(it:χ)(hop:o.op=Op.next it false)(b r:Nat)(left:List ο)
  (hit:a.eval it=.pointer (some ⟨r,0,none⟩))(h:Rg w b r left)
  (hDone:left=[]->wpListIn F n P ops Q rest (a.put o.dst (.tuple #[.bool false])) w)
  (hMore:∀(x v:ο)(w':Γ)(left':List ο),(x::left').Perm left->Rg w' b r left'->w.grownBy w' (some r)->w'.heap.size=w.heap.size ->
   (Instr.entry (.pointer (some ⟨r,0,none⟩))).run P w'=.ok (.tuple #[x,v]) w'->wpListIn F n P ops Q rest (a.put o.dst (.tuple #[.bool true,x,v])) w') :
  wpListIn F n P ops Q (o::rest) a w:=by
 refine wpListIn_plain hg λK' hK'=>?_;unfold Oper.wpIn;refine⟨by simp[Oper.about,hop],?_⟩;rw[Oper.semAt_plain F _ _ (by rw[hop];intro c hc';cases hc')];obtain⟨en,cl,seen,h1,h2,h3,h4⟩:=h.ex;rcases run_next_at (P:=P) w o.type r b cl cl seen en cl h1 h2 h3.1 (OF _) with⟨e0,r2⟩ | ⟨q,r1,w1,r2,r3⟩
 ·simp only[execOp,hop,hit,r2,m5,υ,ψ];refine hK' _ _ (hDone ?_)
  have:(en.toList.filter λe=>!seen.contains e.born)=[]:=by
   have:=Array.eq_empty_of_size_eq_zero e0;simpa [leftOf]using b8 Array.toList this
  rw[this]at h4;exact List.perm_nil.1 h4
 ·simp only[execOp,hop,hit,r3,m5,υ,ψ];have hw1:w1.heap=w.heap:=by rcases r2 with rfl | rfl <;> rfl
  have hrlt:=(cg.1 h1).1;have hne:b≠r:=by intro e;subst e;rw[h1]at h2;cases h2
  have hqen:q∈en.toList/\(!seen.contains q.born)=true:=by
   simpa [leftOf]using r1
  have hr':(setBlock w1 r (.mapIter (some b) cl (seen.push q.born) cl)).heap[r]?=some (.mapIter (some b) cl (seen.push q.born) cl):=by
   show (w1.heap.setIfInBounds r _)[r]?=_;rw[hw1];simp[hrlt]
  have hb':(setBlock w1 r (.mapIter (some b) cl (seen.push q.born) cl)).heap[b]?=some (.map en cl):=by
   show (w1.heap.setIfInBounds r _)[b]?=_;rw[hw1,Array.getElem?_setIfInBounds_ne (kg hne)];exact h2
  have hf:(en.toList.filter λe=>!(seen.push q.born).contains e.born)=(en.toList.filter λe=>!seen.contains e.born).filter λe=>!(e.born==q.born):=by
   rw[List.filter_filter];refine List.filter_congr λe _=>?_;simp only[Array.contains_push,Bool.not_or];rw[Bool.and_comm]
  obtain⟨la,lz,hl⟩:=List.append_of_mem (mu.2 hqen:q∈en.toList.filter λe=>!seen.contains e.born)
  have hself:(la++q::lz).filter (λe:ad=>!(e.born==q.born))=la++lz:=by
   have hnd2:((la++q::lz).map (·.born)).Nodup:=by rw[<- hl];exact h3.2.1.sublist (List.filter_sublist.map _)
   rw[gj,bj,jx]at hnd2;obtain⟨n1,n2,n3⟩:=hnd2;rw[dw]at n2;rw[nu,List.filter_cons];have q0:(!(q.born==q.born))=false:=by simp
   rw[q0,an (by simp)];congr 1
   ·rw[my];intro e he;have:e.born≠q.born:=λh=>n3 _ (qx he) _ (No ..) h;simp[this]
   ·rw[my];intro e he;have:e.born≠q.born:=λh=>n2.1 (by rw[<- h];exact qx he);simp[this]
  refine hK' _ _ (hMore q.key q.val _ ((la++lz).map (·.key)) ?_ ⟨en,cl,seen.push q.born,hr',hb',h3,by rw[hf,hl,hself]⟩ ?_ ?_ (run_entry_at _ r b cl seen en cl q hr' hb' hqen.1 h3.2.1))
  ·refine ph ?_ h4.symm;rw[hl];simp only[gj,bj];exact jt.symm
  ·refine⟨?_,?_,?_,?_,λk hk hne=>?_⟩
   ·rcases r2 with rfl | rfl <;> rfl
   ·rcases r2 with rfl | rfl <;> rfl
   ·rcases r2 with rfl | rfl <;> rfl
   ·show w.heap.size<=(w1.heap.setIfInBounds r _).size;rw[hw1];simp
   ·show (w1.heap.setIfInBounds r _)[k]?=_;rw[hw1,Array.getElem?_setIfInBounds_ne];intro e;exact hne (by rw[e])
  ·show (w1.heap.setIfInBounds r _).size=_;rw[hw1];simp
end
end
end Go.Ax
namespace Go.AxC
open Go Go.Proofs Go.Ax Go.RowKit Go.Maps Go.Sort Go.Shelf
def rI(x:Bool × ByteArray):ο:=.agg #[.bool x.1,.string x.2]
def encS(x:ByteArray):ο:=.string x
def fA(x:Bool × ByteArray):List ο:=[.bool x.1,.string x.2]
def qL(x:ByteArray):List ο:=[.string x]
set_option maxRecDepth 100000 in
theorem IP(F:Fence)(n:Nat)(hF:F.fn 154)(hro:F.round=none)(hn:1<=n)(Bm b:Nat)(en:Array ad)(cl:Nat)(w:Γ)(hBm:Bm<w.heap.size)
  (hm:w.cell? ⟨Bm,0,none⟩=some (.map (some b)))(hb:w.heap[b]?=some (.map en cl))(hst:oY en cl)(hk:∀x∈en.toList.map (·.key),∃y,x=rI y) :
  SeqStopsK F n κ 154 #[.pointer (some ⟨Bm,0,none⟩)] (λx=>#[rI x]) ml (λxs=>(xs.map rI).Perm (en.toList.map (·.key))) (λ_=>True) en.size w:=by
 intro l J Jx W hW hJ hJx hY h0;replace hm:W.cell? ⟨Bm,0,none⟩=some (.map (some b)):=(hW.cell (p:=⟨Bm,0,none⟩) hBm).trans hm;replace hb:W.heap[b]?=some (.map en cl):=(hW.block b (cg.1 hb).1).trans hb;refine callsIn_of_wp Tryz.func154 rfl hF ?_ hro;simp only[Tryz.ntmps154,l7,IT,aq,μ,se,kq,kz,mh,l9,cz,ey]
 gi_wp2_with (first
  |(gi_at_range;refine mN _ rfl _ _ rfl _ _ Tryz.underlying88 b en cl rfl hb hst ?_;intro w0 hrg0 hg0 hs0)
  |gi_in)
 gi_loopw [] (λwr=>∃(left:List ο) (ss:List (Bool × ByteArray)),Rg wr b W.heap.size left/\(ss.map rI++left).Perm (en.toList.map (·.key))/\J ss wr)
  (λwr=>Da wr b W.heap.size)
 case atStart=>
  exact⟨_,[],hrg0,by simp,hJ [] W w0 none h0 hg0 (λr e=>by cases e)⟩
 case round=>
  obtain⟨left,ss,hrg,hp,hJs⟩:=hrel
  gi_wp2_with (first
   |(gi_at_next;refine nK _ rfl _ rfl b W.heap.size left rfl hrg ?_ ?_)
   |gi_in)
  ·intro hl0
   gi_wp2
   go_end0
   refine⟨⟨_,rfl⟩,.inl ⟨ss,?_,hJs⟩⟩;rw[hl0]at hp;simpa using hp
  ·intro x v w2 left2 hpl hrg2 hg2 hs2 hen;have hx:x∈en.toList.map (·.key):=hp.mem_iff.1 (jy _ (hpl.mem_iff.1 (No ..)));obtain⟨y,rfl⟩:=hk x hx;have hJ2:J ss w2:=hJ ss wr w2 (some W.heap.size) hJs hg2 (λr e=>by cases e;exact⟨OF _,hrg.walk⟩)
   have hp2:((ss++[y]).map rI++left2).Perm (en.toList.map (·.key)):=by
    refine ph ?_ hp;rw[gj,cw];exact qb _ hpl
   have hlen:ss.length<en.size:=by
    have:=hp2.length_eq;simp at this;omega
   obtain⟨q1,q2⟩:=y;have hJ3:J ss (w2.alloc (.cells #[.bool q1,.string q2] 51)):=hJ ss w2 _ none hJ2 (World.grownBy_alloc w2 _ none) (λr e=>by cases e);have hrg3:Rg (w2.alloc (.cells #[.bool q1,.string q2] 51)) b W.heap.size left2:=hrg2.kept (KeepsWalks.alloc _ _);obtain⟨fn,tmps,assign,body,hy,hR⟩:=hY ss (q1,q2) _ hJ3 hlen;have hll:=hpl.length_eq;simp only[rI]at hen hy;simp only[rI];clear hs2
   gi_wp2
   refine hR.mono ?_;rintro e W3 (⟨rfl,hJ4,hk3⟩ | ⟨rfl,hJx3⟩)
   ·gi_wp2
    have hrg4:=hrg3.kept hk3
    go_roundw
    case rel=>exact⟨left2,ss++[(q1,q2)],hrg4,hp2,hJ4⟩
    case measure=>rw[hrg4.left_eq,hrg.left_eq];simp at hll;omega
   ·gi_wp2
    refine bodyPost_ret (results_none rfl _ _ _) rfl ?_;exact⟨⟨_,rfl⟩,.inr ⟨ss++[(q1,q2)],trivial,hJx3⟩⟩
set_option maxRecDepth 100000 in
theorem IM(F:Fence)(n:Nat)(hF:F.fn 131)(hro:F.round=none)(hn:1<=n)(Bm b:Nat)(en:Array ad)(cl:Nat)(w:Γ)(hBm:Bm<w.heap.size)
  (hm:w.cell? ⟨Bm,0,none⟩=some (.map (some b)))(hb:w.heap[b]?=some (.map en cl))(hst:oY en cl)(hk:∀x∈en.toList.map (·.key),∃y,x=encS y) :
  SeqStopsK F n κ 131 #[.pointer (some ⟨Bm,0,none⟩)] (λx=>#[encS x]) ml (λxs=>(xs.map encS).Perm (en.toList.map (·.key))) (λ_=>True) en.size w:=by
 intro l J Jx W hW hJ hJx hY h0;replace hm:W.cell? ⟨Bm,0,none⟩=some (.map (some b)):=(hW.cell (p:=⟨Bm,0,none⟩) hBm).trans hm;replace hb:W.heap[b]?=some (.map en cl):=(hW.block b (cg.1 hb).1).trans hb;refine callsIn_of_wp Tryz.func131 rfl hF ?_ hro;simp only[Tryz.ntmps131,l7,IT,aq,μ,se,kq,kz,mh,l9,cz,ey]
 gi_wp2_with (first
  |(gi_at_range;refine mN _ rfl _ _ rfl _ _ Tryz.underlying109 b en cl rfl hb hst ?_;intro w0 hrg0 hg0 hs0)
  |gi_in)
 gi_loopw [] (λwr=>∃(left:List ο) (ss:List (ByteArray)),Rg wr b W.heap.size left/\(ss.map encS++left).Perm (en.toList.map (·.key))/\J ss wr)
  (λwr=>Da wr b W.heap.size)
 case atStart=>
  exact⟨_,[],hrg0,by simp,hJ [] W w0 none h0 hg0 (λr e=>by cases e)⟩
 case round=>
  obtain⟨left,ss,hrg,hp,hJs⟩:=hrel
  gi_wp2_with (first
   |(gi_at_next;refine nK _ rfl _ rfl b W.heap.size left rfl hrg ?_ ?_)
   |gi_in)
  ·intro hl0
   gi_wp2
   go_end0
   refine⟨⟨_,rfl⟩,.inl ⟨ss,?_,hJs⟩⟩;rw[hl0]at hp;simpa using hp
  ·intro x v w2 left2 hpl hrg2 hg2 hs2 hen;have hx:x∈en.toList.map (·.key):=hp.mem_iff.1 (jy _ (hpl.mem_iff.1 (No ..)));obtain⟨y,rfl⟩:=hk x hx;have hJ2:J ss w2:=hJ ss wr w2 (some W.heap.size) hJs hg2 (λr e=>by cases e;exact⟨OF _,hrg.walk⟩)
   have hp2:((ss++[y]).map encS++left2).Perm (en.toList.map (·.key)):=by
    refine ph ?_ hp;rw[gj,cw];exact qb _ hpl
   have hlen:ss.length<en.size:=by
    have:=hp2.length_eq;simp at this;omega
   obtain⟨q1,hq1⟩:∃q1,q1=y:=⟨_,rfl⟩;subst hq1;have hJ3:=hJ2;have hrg3:=hrg2;obtain⟨fn,tmps,assign,body,hy,hR⟩:=hY ss q1 _ hJ3 hlen;have hll:=hpl.length_eq;simp only[encS]at hen hy;simp only[encS];clear hs2
   gi_wp2
   refine hR.mono ?_;rintro e W3 (⟨rfl,hJ4,hk3⟩ | ⟨rfl,hJx3⟩)
   ·gi_wp2
    have hrg4:=hrg3.kept hk3
    go_roundw
    case rel=>exact⟨left2,ss++[q1],hrg4,hp2,hJ4⟩
    case measure=>rw[hrg4.left_eq,hrg.left_eq];simp at hll;omega
   ·gi_wp2
    refine bodyPost_ret (results_none rfl _ _ _) rfl ?_;exact⟨⟨_,rfl⟩,.inr ⟨ss++[q1],trivial,hJx3⟩⟩
set_option maxRecDepth 100000 in
theorem IL(F:Fence)(n:Nat)(hF:F.fn 327)(hro:F.round=none)(hn:1<=n)(Bm b:Nat)(en:Array ad)(cl:Nat)(w:Γ)(hBm:Bm<w.heap.size)
  (hm:w.cell? ⟨Bm,0,none⟩=some (.map (some b)))(hb:w.heap[b]?=some (.map en cl))(hst:oY en cl)(hk:∀x∈en.toList.map (·.key),∃y,x=encS y) :
  SeqStopsK F n κ 327 #[.pointer (some ⟨Bm,0,none⟩)] (λx=>#[encS x]) ml (λxs=>(xs.map encS).Perm (en.toList.map (·.key))) (λ_=>True) en.size w:=by
 intro l J Jx W hW hJ hJx hY h0;replace hm:W.cell? ⟨Bm,0,none⟩=some (.map (some b)):=(hW.cell (p:=⟨Bm,0,none⟩) hBm).trans hm;replace hb:W.heap[b]?=some (.map en cl):=(hW.block b (cg.1 hb).1).trans hb;refine callsIn_of_wp Tryz.func327 rfl hF ?_ hro;simp only[Tryz.ntmps327,l7,IT,aq,μ,se,kq,kz,mh,l9,cz,ey]
 gi_wp2_with (first
  |(gi_at_range;refine mN _ rfl _ _ rfl _ _ Tryz.underlying97 b en cl rfl hb hst ?_;intro w0 hrg0 hg0 hs0)
  |gi_in)
 gi_loopw [] (λwr=>∃(left:List ο) (ss:List (ByteArray)),Rg wr b W.heap.size left/\(ss.map encS++left).Perm (en.toList.map (·.key))/\J ss wr)
  (λwr=>Da wr b W.heap.size)
 case atStart=>
  exact⟨_,[],hrg0,by simp,hJ [] W w0 none h0 hg0 (λr e=>by cases e)⟩
 case round=>
  obtain⟨left,ss,hrg,hp,hJs⟩:=hrel
  gi_wp2_with (first
   |(gi_at_next;refine nK _ rfl _ rfl b W.heap.size left rfl hrg ?_ ?_)
   |gi_in)
  ·intro hl0
   gi_wp2
   go_end0
   refine⟨⟨_,rfl⟩,.inl ⟨ss,?_,hJs⟩⟩;rw[hl0]at hp;simpa using hp
  ·intro x v w2 left2 hpl hrg2 hg2 hs2 hen;have hx:x∈en.toList.map (·.key):=hp.mem_iff.1 (jy _ (hpl.mem_iff.1 (No ..)));obtain⟨y,rfl⟩:=hk x hx;have hJ2:J ss w2:=hJ ss wr w2 (some W.heap.size) hJs hg2 (λr e=>by cases e;exact⟨OF _,hrg.walk⟩)
   have hp2:((ss++[y]).map encS++left2).Perm (en.toList.map (·.key)):=by
    refine ph ?_ hp;rw[gj,cw];exact qb _ hpl
   have hlen:ss.length<en.size:=by
    have:=hp2.length_eq;simp at this;omega
   obtain⟨q1,hq1⟩:∃q1,q1=y:=⟨_,rfl⟩;subst hq1;have hJ3:=hJ2;have hrg3:=hrg2;obtain⟨fn,tmps,assign,body,hy,hR⟩:=hY ss q1 _ hJ3 hlen;have hll:=hpl.length_eq;simp only[encS]at hen hy;simp only[encS];clear hs2
   gi_wp2
   refine hR.mono ?_;rintro e W3 (⟨rfl,hJ4,hk3⟩ | ⟨rfl,hJx3⟩)
   ·gi_wp2
    have hrg4:=hrg3.kept hk3
    go_roundw
    case rel=>exact⟨left2,ss++[q1],hrg4,hp2,hJ4⟩
    case measure=>rw[hrg4.left_eq,hrg.left_eq];simp at hll;omega
   ·gi_wp2
    refine bodyPost_ret (results_none rfl _ _ _) rfl ?_;exact⟨⟨_,rfl⟩,.inr ⟨ss++[q1],trivial,hJx3⟩⟩
def Mo:Option Code->Code
 |some (.seq _ (.seq (.seq _ (.block _ (.rangeFunc _ _ a _))) _))=>a
 |_=>.skip
def Mn:Option Code->Code
 |some (.seq _ (.seq (.seq _ (.block _ (.rangeFunc _ _ _ b))) _))=>b
 |_=>.skip
def OT(n:Nat)(A B:Γ):Prop:=ml A B/\Below n A B
theorem KH{α:Type}{F:Fence}{n:Nat}{P:ar}{g:Nat}{lb:Array ο}{encs:α->Array ο}{S Sp:List α->Prop}{N:Nat}{w:Γ}(m:Nat)(h:SeqStopsK F n P g lb encs ml S Sp N w):SeqStopsK F n P g lb encs (OT m) S Sp N w:=
 λl J Jx W hW hJ hJx hY h0=>h l J Jx W hW hJ hJx (λpre x W1 h1 h2=>by
  obtain⟨fn,tmps,assign,body,hy,hR⟩:=hY pre x W1 h1 h2;exact⟨fn,tmps,assign,body,hy,hR.mono λe W' h=>h.imp (λ⟨a,b,c⟩=>⟨a,b,c.1⟩) id⟩) h0
theorem F_{n:Nat}{w A B:Γ}(h:Below n w A)(k:Below n w B)(hs:A.heap.size<=B.heap.size):Below n A B:=
 ⟨k.os.trans h.os.symm,k.tape.trans h.tape.symm,k.output.trans h.output.symm,hs,λi hi=>(k.block i hi).trans (h.block i hi).symm⟩
theorem Hq(w:Γ)(x y:ο)(t:TypeId):∀j u,[x,y][j]?=some u->(w.alloc (.cells #[x,y] t)).cell? ((⟨w.heap.size,0,none⟩:Addr).add j)=some u:=by
 intro j u hj
 match j,hj with
 |0,hj=>simp at hj;subst hj;simp[Addr.add]
 |1,hj=>simp at hj;subst hj;simp[Addr.add]
noncomputable def Bi:Code:=Mo Tryz.f187.body
noncomputable def Hz:Code:=Mn Tryz.f187.body
noncomputable def nE (fn:FuncId) (sv:ο) (Bs D:Nat) (st:LoopState) (pend:Option Code):Loop:=
 { state:=st,pending:=pend,fn,tmps:=#[.slice none 0 0,sv,.pointer (some ⟨Bs,0,none⟩),undef,.slice none 0 0,undef,sv,undef,undef,undef,undef,undef,undef],params:=#[7],assign:=Bi,body:=Hz,defers:=D }
structure JH (w0:Γ) (fn:FuncId) (sv:ο) (Bs l D:Nat) (ss:List (Bool × ByteArray)) (W:Γ):Prop where
 box:∃v,W.heap[Bs]?=some (.cells #[v] 23 (0,0))/\W.ownsRow w0.heap.size 51 2 v ss.length (ss.flatMap fA)/\(v=.slice none 0 0 ↔ ss=[])
 L:W.heap[l]?=some (.loop (nE fn sv Bs D .ready none))
 K:W.heap[D]?=some (.deferred (some []))
 below:Below w0.heap.size w0 W
theorem La(w0:Γ)(fn:FuncId)(sv:ο)(Bs l D B:Nat)(hB:w0.heap.size<=B):AbidesFrom B (JH w0 fn sv Bs l D):=λs W W' row h hg hrow=>by
 have hrow':∀r,row=some r->∃o:Obj,W.heap[r]?=some o/\o.isWalk=true:=λr e=>(hrow r e).2;obtain⟨v,hv,hr,hn⟩:=h.box
 exact⟨⟨v,(grownBy_keeps hg hrow' hv rfl).trans hv,ownsRow_abides_a hr hg hrow',hn⟩,(grownBy_keeps hg hrow' h.L rfl).trans h.L,(grownBy_keeps hg hrow' h.K rfl).trans h.K,
  h.below.grown hg h.below.size (λk e=>e8 hB (hrow k e).1)⟩
set_option maxRecDepth 100000 in
theorem Sh(F : Fence)(m : Nat)(w0 : Γ)(fn : FuncId)(hfn : F.fn fn)(sv : ο)(Bs l D : Nat)(hBl : Bs ≠ l)(hDl : D ≠ l)(hDB : D ≠ Bs)(h0B : w0.heap.size <= Bs)(h0l : w0.heap.size <= l)
    (N : Nat)(hN : N <= maxLen)(hNb : N * 24 <= 140737488355328)(ss : List (Bool × ByteArray))(x : Bool × ByteArray)(W : Γ)(h : JH w0 fn sv Bs l D ss W)(hlen : ss.length < N) :
    YieldAt F m κ l #[rI x] W fun e W' => e = .returned (.bool true) /\ JH w0 fn sv Bs l D (ss ++ [x]) W' /\ OT w0.heap.size W W' := by
  obtain ⟨q1, q2⟩ := x;obtain ⟨v, hv, hrow, _⟩ := h.box;have h' := h;refine ⟨fn, #[.slice none 0 0, sv, .pointer (some ⟨Bs, 0, none⟩), undef, .slice none 0 0, undef, sv, rI (q1, q2), undef, undef, undef, undef, undef], Bi, Hz, by simpa [nE] using run_yield (P := κ) (args := #[rI (q1, q2)]) h.L rfl, roundIn_of_wpIn hfn ?_⟩;have hBW : Bs < W.heap.size := (cg.1 hv).1;have hlW : l < W.heap.size := (cg.1 h.L).1;have hDW : D < W.heap.size := (cg.1 h.K).1;have hv1 : (W.alloc (.cells #[.bool q1, .string q2] 51)).heap[Bs]? = some (.cells #[v] 23 (0, 0)) := (Below.heap_alloc _ _ Bs hBW).trans hv;have hL1 : (W.alloc (.cells #[.bool q1, .string q2] 51)).heap[l]? = some (.loop (nE fn sv Bs D .ready none)) := (Below.heap_alloc _ _ l hlW).trans h.L;have hK1 : (W.alloc (.cells #[.bool q1, .string q2] 51)).heap[D]? = some (.deferred (some [])) := (Below.heap_alloc _ _ D hDW).trans h.K;have hrow1 : (W.alloc (.cells #[.bool q1, .string q2] 51)).ownsRow w0.heap.size 51 2 v ss.length (ss.flatMap fA) := hrow.alloc _;have hb1 : Below w0.heap.size w0 (W.alloc (.cells #[.bool q1, .string q2] 51)) := h.below.alloc h.below.size _;have hk1 : ml W (W.alloc (.cells #[.bool q1, .string q2] 51)) := KeepsWalks.alloc _ _;have hbr := run_beginRound (P := κ) hL1 rfl;obtain ⟨W2, hW2⟩ : ∃ W2, (W.alloc (.cells #[.bool q1, .string q2] 51)).putObj l (.loop { nE fn sv Bs D .ready none with state := .busy }) = W2 := ⟨_, rfl⟩;rw [hW2] at hbr;have hl1 : l < (W.alloc (.cells #[.bool q1, .string q2] 51)).heap.size := (cg.1 hL1).1;have hg2 : (W.alloc (.cells #[.bool q1, .string q2] 51)).grownBy W2 (some l) := by rw [<- hW2]; exact grownBy_putObj_a _ _ _
  have hk2 : ml W W2 := hk1.trans (by rw [<- hW2]; exact KeepsWalks.putObj _ hL1 rfl);have hv2 : W2.heap[Bs]? = some (.cells #[v] 23 (0, 0)) := by rw [<- hW2]; exact(ba hBl).trans hv1
  have hK2 : W2.heap[D]? = some (.deferred (some [])) := by rw [<- hW2]; exact(ba hDl).trans hK1
  have hL2 : W2.heap[l]? = some (.loop { nE fn sv Bs D .ready none with state := .busy }) := by rw [<- hW2]; exact oR hl1
  have hrow2 : W2.ownsRow w0.heap.size 51 2 v ss.length (ss.flatMap fA) := hrow1.kept hg2 (ownsRow_ne_a hrow1 hL1 (fun cur e => by cases e));have hb2 : Below w0.heap.size w0 W2 := hb1.grown hg2 hb1.size (fun k e => by cases e; exact h0l);have hBlt : Bs < W2.heap.size := (cg.1 hv2).1;have hl2 : l < W2.heap.size := (cg.1 hL2).1;have hDlt : D < W2.heap.size := (cg.1 hK2).1;obtain ⟨hc2, hf2⟩ := cell_of_box_a hv2;have hx2 : W2.heap[W.heap.size]? = some (.cells #[.bool q1, .string q2] 51 (0, 0)) := by rw [<- hW2]; exact(ba (by omega)).trans (fw W _)
  have hxA : W2.cell? ⟨W.heap.size, 0, none⟩ = some (.bool q1) := by simp [nl, hx2]
  have hxB : W2.cell? ⟨W.heap.size, 1, none⟩ = some (.string q2) := by simp [nl, hx2]
  have qU : ∀ {j : Nat} {o : Obj}, W2.heap[j]? = some o -> (∀ cur, o ≠ .cells cur 51 (0, 0)) -> some j ≠ v.ownBlock := fun hj hno => by
    rcases ownsRow_ne_a hrow2 hj hno with e | e
    · rw [e]; simp
    · exact fun e' => e e'.symm
  clear hW2;simp only [Bi, Mo, Tryz.f187, rI]
  gi_wp2_with (rw [Oper.semAt_eq _ _ _ (fun c h => by cases h)]; go_simp; try go_bits)
  simp only [Hz, Mn, Tryz.f187]
  gi_wp2_with (first
    | (gi_at_builtin; refine wpListIn_append_own _ rfl _ _ 23 rfl w0.heap.size 51 _ (.agg #[.bool false, .string ⟨#[]⟩]) 2 24 Tryz.underlying23 Tryz.type51 rfl rfl rfl rfl (by decide) _ _ _ rfl (hrow2.alloc _) ⟨W2.heap.size, 0, none⟩ 1 1 [.bool q1, .string q2] rfl rfl (Hq _ _ _ _) (by simp [Value.oneCell']) (by omega) (by omega) (by have := hb2.size; simp; omega) ?_; intro v' w3 hown' hg3 hnil3
       have hv3 : w3.heap[Bs]? = some (.cells #[v] 23 (0, 0)) := (hg3.block Bs (by simp; omega) (qU hv2 (fun cur e => by cases e))).trans ((Below.heap_alloc _ _ Bs hBlt).trans hv2);obtain ⟨hc3, hf3⟩ := cell_of_box_a hv3
       obtain ⟨g', cap', cur', rfl, hbase', hgb', hr1, hr2, hr3, hr4⟩ : ∃ g' cap' cur', v' = .slice (some ⟨g', 0, none⟩) (ss.length + 1) cap' /\ w0.heap.size <= g' /\ w3.heap[g']? = some (.cells cur' 51 (0, 0)) /\ ss.length + 1 <= cap' /\ cap' <= maxLen /\ cur'.size = cap' * 2 /\ cur'.toList.take ((ss.length + 1) * 2) = ss.flatMap fA ++ [.bool q1, .string q2] := by
         rcases hown'.2 with ⟨_, h0⟩ | h'
         · exact absurd h0 (by omega)
         · exact h'
       go_frame)
    | (rw [Oper.semAt_eq _ _ _ (fun c h => by cases h)]; go_simp; try go_bits))
  have hg3' : (W2.alloc (.cells #[.bool q1, .string q2] 51)).grownBy w3 v.ownBlock := hg3;have hL3 : w3.heap[l]? = some (.loop { nE fn sv Bs D .ready none with state := .busy }) := (hg3'.block l (by simp; omega) (qU hL2 (fun cur e => by cases e))).trans ((Below.heap_alloc _ _ l hl2).trans hL2);have hK3 : w3.heap[D]? = some (.deferred (some [])) := (hg3'.block D (by simp; omega) (qU hK2 (fun cur e => by cases e))).trans ((Below.heap_alloc _ _ D hDlt).trans hK2);obtain ⟨w4, hw4⟩ : ∃ w4, w3.setCell ⟨Bs, 0, none⟩ (.slice (some ⟨g', 0, none⟩) (ss.length + 1) cap') = w4 := ⟨_, rfl⟩;rw [hw4];have hg4 : w3.grownBy w4 (some Bs) := by rw [<- hw4]; exact grownBy_setCell0_a _ _ _
  have hv4 : w4.heap[Bs]? = some (.cells #[.slice (some ⟨g', 0, none⟩) (ss.length + 1) cap'] 23 (0, 0)) := by rw [<- hw4]; exact heap_setCell_box_a _ hv3
  have hL4 : w4.heap[l]? = some (.loop { nE fn sv Bs D .ready none with state := .busy }) := (hg4.block l (cg.1 hL3).1 (fun e => hBl (by cases e; rfl))).trans hL3;have hK4 : w4.heap[D]? = some (.deferred (some [])) := (hg4.block D (cg.1 hK3).1 (fun e => hDB (by cases e; rfl))).trans hK3;have hrow4 := hown'.kept hg4 (ownsRow_ne_a hown' hv3 (fun cur e => by cases e));have hl4 : l < w4.heap.size := (cg.1 hL4).1;have hb3 : Below w0.heap.size w0 w3 := (hb2.alloc hb2.size _).grown hg3' (by have := hb2.size; simp; omega) (fun k e => (hrow2.lt k e).1);have hb4 : Below w0.heap.size w0 w4 := hb3.grown hg4 hb3.size (fun k e => by cases e; exact h0B);have hk4 : ml W w4 := ((hk2.trans (KeepsWalks.alloc _ _)).trans (KeepsWalks.of_grownBy hg3' (ownsRow_not_walk_a (hrow2.alloc _)))).trans (by rw [<- hw4]; exact KeepsWalks.setCell _ _ _);clear hw4;have hb5 := hb4.grown (grownBy_putObj_a w4 l (.loop { { nE fn sv Bs D .ready none with state := .busy } with state := if (none : Option Code).isNone then .ready else .done, pending := none })) hb4.size (fun k e => by cases e; exact h0l);have hk5 := hk4.trans (KeepsWalks.putObj (.loop { { nE fn sv Bs D .ready none with state := .busy } with state := if (none : Option Code).isNone then .ready else .done, pending := none }) hL4 rfl);refine ⟨_, _, run_endRound none hL4, rfl, ⟨⟨_, (ba hBl).trans hv4, ?_, by simp⟩, oR hl4, (ba hDl).trans hK4, hb5⟩, hk5, F_ h'.below hb5 hk5.size⟩;have := hrow4.kept (grownBy_putObj_a w4 l (.loop { { nE fn sv Bs D .ready none with state := .busy } with state := if (none : Option Code).isNone then .ready else .done, pending := none })) (ownsRow_ne_a hrow4 hL4 (fun cur e => by cases e));simpa [fA] using this
set_option maxRecDepth 100000 in
theorem K9(F : Fence)(n : Nat)(hF : F.fn 187)(hro : F.round = none)(hn : 2 <= n)(g : Nat)(lb : Array ο)(hFg : F.fn g)(eg : ∀ args w, (callFunc g args).run κ w = .ok (.enter g args) w)
    (S : List (Bool × ByteArray) -> Prop)(N : Nat)(hN : N <= maxLen)(hNb : N * 24 <= 140737488355328)(w : Γ)(hseq : SeqStopsK F (n - 1) κ g lb (fun x => #[rI x]) (OT w.heap.size) S (fun _ => True) N w) :
    CallsIn F n κ 187 #[.slice none 0 0, .func (.func g) #[] lb] w fun e w' => ∃ (v : ο) (ss : List (Bool × ByteArray)), e = .returned v /\ S ss /\ w'.ownsRow w.heap.size 51 2 v ss.length (ss.flatMap fA) /\ (v = .slice none 0 0 ↔ ss = []) /\ Below w.heap.size w w' := by
  have h1 : 1 <= n := by omega
  refine callsIn_of_wp_marks Tryz.func187 rfl hF ?_ hro;simp only [Tryz.ntmps187, l7, IT, aq, μ, se, kq, kz, mh, l9, cz, ey]
  gi_wp2
  refine wpIn_rangeFunc ?_;intro fn hfn;rw [hro];obtain ⟨W0, hW0⟩ : ∃ W0, w.alloc (.cells #[.slice none 0 0] 23) = W0 := ⟨_, rfl⟩;have hs0 : W0.heap.size = w.heap.size + 1 := by rw [<- hW0]; simp
  have hv0 : W0.heap[w.heap.size]? = some (.cells #[.slice none 0 0] 23 (0, 0)) := by rw [<- hW0]; exact fw w _
  have hb0 : Below w.heap.size w W0 := by rw [<- hW0]; exact(Below.refl _ w).alloc (OF _) _
  rw [hW0];obtain ⟨W1, hW1⟩ : ∃ W1, (W0.alloc (.deferred (some []))).alloc (.loop (nE fn (.func (.func g) #[] lb) w.heap.size W0.heap.size .ready none)) = W1 := ⟨_, rfl⟩
  have hold : ∀ k, k < W0.heap.size -> W1.heap[k]? = W0.heap[k]? := fun k hk => by
    rw [<- hW1]; exact(Below.heap_alloc _ _ k (by simp; omega)).trans (Below.heap_alloc _ _ k hk)
  have hb1 : Below w.heap.size w W1 := by rw [<- hW1]; exact(hb0.alloc hb0.size _).alloc (by have := hb0.size; simp; omega) _
  have hM : JH w fn (.func (.func g) #[] lb) w.heap.size (W0.heap.size + 1) W0.heap.size [] W1 :=
    ⟨⟨_, (hold w.heap.size (by omega)).trans hv0, ⟨rfl, .inl ⟨rfl, rfl⟩⟩, by simp⟩,
     by rw [<- hW1]; have := fw (W0.alloc (.deferred (some []))) (.loop (nE fn (.func (.func g) #[] lb) w.heap.size W0.heap.size .ready none)); rwa [World.size_alloc] at this,
     by rw [<- hW1]; exact(Below.heap_alloc _ _ _ (by simp)).trans (fw W0 _), hb1⟩
  refine ⟨W0.heap.size + 1, [{ target := .collected W0.heap.size, args := #[] }], W1, { target := .fn (.func g) lb, args := #[.func (.yield (W0.heap.size + 1)) #[] #[]] }, W1, g,
    #[.func (.yield (W0.heap.size + 1)) #[] #[]] ++ lb, W1, ?_, ?_, ?_, ?_, fun _ => h1, ?_⟩
  · rw [<- hW1]; exact run_enterLoop_outer _ _ _ _ _
  · simp [resolve, go_sem]
  · intro f' hf'; simp [Target.leads] at hf'; subst hf'; exact hFg
  · simp [invoke, go_sem, eg]
  · refine(hseq (W0.heap.size + 1) (JH w fn (.func (.func g) #[] lb) w.heap.size (W0.heap.size + 1) W0.heap.size) (fun _ _ => False) W1 hb1 (La _ _ _ _ _ _ _ hb1.size) (fun _ _ _ _ h _ _ => h)
      (fun pre x W hJ hl => by
        obtain ⟨fn', tmps, assign, body, hy, hR⟩ := Sh F (n - 1 - 1) w fn hfn _ w.heap.size (W0.heap.size + 1) W0.heap.size (by omega) (by omega) (by omega) (OF _) (by omega) N hN hNb pre x W hJ hl;exact ⟨fn', tmps, assign, body, hy, hR.mono fun e W' h => .inl h⟩) hM).mono ?_
    rintro e W2 ⟨⟨v0, rfl⟩, ⟨ss, hS, h2⟩ | ⟨_, _, hf⟩⟩
    case inr => exact hf.elim
    obtain ⟨v, hv, hrow, hnil⟩ := h2.box;have hend := run_endLoop (P := κ) h2.L (by simp [nE]);obtain ⟨W3, hW3⟩ : ∃ W3, W2.putObj (W0.heap.size + 1) (.loop { nE fn (.func (.func g) #[] lb) w.heap.size W0.heap.size .ready none with state := .exhausted }) = W3 := ⟨_, rfl⟩;rw [hW3] at hend;have hg3 : W2.grownBy W3 (some (W0.heap.size + 1)) := by rw [<- hW3]; exact grownBy_putObj_a _ _ _
    have hv3 : W3.heap[w.heap.size]? = some (.cells #[v] 23 (0, 0)) := by rw [<- hW3]; exact(ba (by omega)).trans hv
    have hK3 : W3.heap[W0.heap.size]? = some (.deferred (some [])) := by rw [<- hW3]; exact(ba (by omega)).trans h2.K
    have hrow3 := hrow.kept hg3 (ownsRow_ne_a hrow h2.L (fun cur e => by cases e));have hb3 : Below w.heap.size w W3 := h2.below.grown hg3 h2.below.size (fun k e => by cases e; omega);obtain ⟨hc3, hf3⟩ := cell_of_box_a hv3;clear hW3;refine ⟨none, W3, hend, ?_⟩
    gi_wp2
    rw [<- hs0];refine ⟨by simp, .inl ⟨_, _, rfl, run_takeDeferred hK3, ?_⟩⟩;exact ⟨_, results_tmp rfl _ _ _, v, ss, rfl, hS, hrow3.kept (grownBy_putObj_a _ _ _) (ownsRow_ne_a hrow3 hK3 (fun cur e => by cases e)), hnil, hb3.grown (grownBy_putObj_a _ _ _) hb3.size (fun k e => by cases e; omega)⟩
theorem RF(F:Fence)(n:Nat)(hC:F.fn 152)(hF:F.fn 187)(hro:F.round=none)(hn:3<=n)(g:Nat)(lb:Array ο)(hFg:F.fn g)(eg:∀args w,(callFunc g args).run κ w=.ok (.enter g args) w)
  (S:List (Bool × ByteArray)->Prop)(N:Nat)(hN:N<=maxLen)(hNb:N*24<=140737488355328)(w:Γ)(hseq:SeqStopsK F (n-1-1) κ g lb (λx=>#[rI x]) (OT w.heap.size) S (λ_=>True) N w) :
  CallsIn F n κ 152 #[.func (.func g) #[] lb] w λe w'=>∃(v:ο) (ss:List (Bool × ByteArray)),e=.returned v/\S ss/\w'.ownsRow w.heap.size 51 2 v ss.length (ss.flatMap fA)/\(v=.slice none 0 0 ↔ ss=[])/\Below w.heap.size w w':=by
 have h1:1<=n:=by omega
 refine callsIn_of_wp Tryz.func152 rfl hC ?_ hro;simp only[Tryz.ntmps152,l7,IT,aq,μ,se,kq,kz,mh,l9,cz,ey]
 gi_wp2_with (gi_at_call 187;refine(K9 F (n-1) hF hro (by omega) g lb hFg eg S N hN hNb _ hseq).mono ?_;rintro e w' ⟨v,ss,rfl,hS,hrow,hnil,hb⟩)
 go_ret
 exact⟨v,ss,rfl,hS,hrow,hnil,hb⟩
noncomputable def Bh:Code:=Mo Tryz.f171.body
noncomputable def Hy:Code:=Mn Tryz.f171.body
noncomputable def nS (fn:FuncId) (sv:ο) (Bs D:Nat) (st:LoopState) (pend:Option Code):Loop:=
 { state:=st,pending:=pend,fn,tmps:=#[.slice none 0 0,sv,.pointer (some ⟨Bs,0,none⟩),undef,.slice none 0 0,undef,sv,undef,undef,undef,undef,undef,undef],params:=#[7],assign:=Bh,body:=Hy,defers:=D }
structure JG (w0:Γ) (fn:FuncId) (sv:ο) (Bs l D:Nat) (ss:List (ByteArray)) (W:Γ):Prop where
 box:∃v,W.heap[Bs]?=some (.cells #[v] 24 (0,0))/\W.ownsRow w0.heap.size 9 1 v ss.length (ss.flatMap qL)/\(v=.slice none 0 0 ↔ ss=[])
 L:W.heap[l]?=some (.loop (nS fn sv Bs D .ready none))
 K:W.heap[D]?=some (.deferred (some []))
 below:Below w0.heap.size w0 W
theorem K_(w0:Γ)(fn:FuncId)(sv:ο)(Bs l D B:Nat)(hB:w0.heap.size<=B):AbidesFrom B (JG w0 fn sv Bs l D):=λs W W' row h hg hrow=>by
 have hrow':∀r,row=some r->∃o:Obj,W.heap[r]?=some o/\o.isWalk=true:=λr e=>(hrow r e).2;obtain⟨v,hv,hr,hn⟩:=h.box
 exact⟨⟨v,(grownBy_keeps hg hrow' hv rfl).trans hv,ownsRow_abides_a hr hg hrow',hn⟩,(grownBy_keeps hg hrow' h.L rfl).trans h.L,(grownBy_keeps hg hrow' h.K rfl).trans h.K,
  h.below.grown hg h.below.size (λk e=>e8 hB (hrow k e).1)⟩
set_option maxRecDepth 100000 in
theorem Sf(F : Fence)(m : Nat)(w0 : Γ)(fn : FuncId)(hfn : F.fn fn)(sv : ο)(Bs l D : Nat)(hBl : Bs ≠ l)(hDl : D ≠ l)(hDB : D ≠ Bs)(h0B : w0.heap.size <= Bs)(h0l : w0.heap.size <= l)
    (N : Nat)(hN : N <= maxLen)(hNb : N * 16 <= 140737488355328)(ss : List (ByteArray))(x : ByteArray)(W : Γ)(h : JG w0 fn sv Bs l D ss W)(hlen : ss.length < N) :
    YieldAt F m κ l #[encS x] W fun e W' => e = .returned (.bool true) /\ JG w0 fn sv Bs l D (ss ++ [x]) W' /\ OT w0.heap.size W W' := by
  obtain ⟨q1, hq1⟩ : ∃ q1, q1 = x := ⟨_, rfl⟩;subst hq1;obtain ⟨v, hv, hrow, _⟩ := h.box;have h' := h;refine ⟨fn, #[.slice none 0 0, sv, .pointer (some ⟨Bs, 0, none⟩), undef, .slice none 0 0, undef, sv, encS q1, undef, undef, undef, undef, undef], Bh, Hy, by simpa [nS] using run_yield (P := κ) (args := #[encS q1]) h.L rfl, roundIn_of_wpIn hfn ?_⟩;have hv1 := hv;have hL1 := h.L;have hK1 := h.K;have hrow1 := hrow;have hb1 := h.below;have hk1 := KeepsWalks.refl W;have hbr := run_beginRound (P := κ) hL1 rfl;obtain ⟨W2, hW2⟩ : ∃ W2, W.putObj l (.loop { nS fn sv Bs D .ready none with state := .busy }) = W2 := ⟨_, rfl⟩;rw [hW2] at hbr;have hl1 : l < W.heap.size := (cg.1 hL1).1;have hg2 : W.grownBy W2 (some l) := by rw [<- hW2]; exact grownBy_putObj_a _ _ _
  have hk2 : ml W W2 := hk1.trans (by rw [<- hW2]; exact KeepsWalks.putObj _ hL1 rfl);have hv2 : W2.heap[Bs]? = some (.cells #[v] 24 (0, 0)) := by rw [<- hW2]; exact(ba hBl).trans hv1
  have hK2 : W2.heap[D]? = some (.deferred (some [])) := by rw [<- hW2]; exact(ba hDl).trans hK1
  have hL2 : W2.heap[l]? = some (.loop { nS fn sv Bs D .ready none with state := .busy }) := by rw [<- hW2]; exact oR hl1
  have hrow2 : W2.ownsRow w0.heap.size 9 1 v ss.length (ss.flatMap qL) := hrow1.kept hg2 (ownsRow_ne_a hrow1 hL1 (fun cur e => by cases e));have hb2 : Below w0.heap.size w0 W2 := hb1.grown hg2 hb1.size (fun k e => by cases e; exact h0l);have hBlt : Bs < W2.heap.size := (cg.1 hv2).1;have hl2 : l < W2.heap.size := (cg.1 hL2).1;have hDlt : D < W2.heap.size := (cg.1 hK2).1;obtain ⟨hc2, hf2⟩ := cell_of_box_a hv2
  have qU : ∀ {j : Nat} {o : Obj}, W2.heap[j]? = some o -> (∀ cur, o ≠ .cells cur 9 (0, 0)) -> some j ≠ v.ownBlock := fun hj hno => by
    rcases ownsRow_ne_a hrow2 hj hno with e | e
    · rw [e]; simp
    · exact fun e' => e e'.symm
  clear hW2;simp only [Bh, Mo, Tryz.f171, encS]
  gi_wp2_with (rw [Oper.semAt_eq _ _ _ (fun c h => by cases h)]; go_simp; try go_bits)
  simp only [Hy, Mn, Tryz.f171]
  gi_wp2_with (first
    | (gi_at_builtin; refine wpListIn_append_own _ rfl _ _ 24 rfl w0.heap.size 9 _ (.string ⟨#[]⟩) 1 16 py Tryz.type9 rfl rfl rfl rfl (by decide) _ _ _ rfl (hrow2.alloc _) ⟨W2.heap.size, 0, none⟩ 1 1 [.string q1] rfl rfl (cell_one_new _ _ _) (by simp [Value.oneCell']) (by omega) (by omega) (by have := hb2.size; simp; omega) ?_; intro v' w3 hown' hg3 hnil3
       have hv3 : w3.heap[Bs]? = some (.cells #[v] 24 (0, 0)) := (hg3.block Bs (by simp; omega) (qU hv2 (fun cur e => by cases e))).trans ((Below.heap_alloc _ _ Bs hBlt).trans hv2);obtain ⟨hc3, hf3⟩ := cell_of_box_a hv3
       obtain ⟨g', cap', cur', rfl, hbase', hgb', hr1, hr2, hr3, hr4⟩ : ∃ g' cap' cur', v' = .slice (some ⟨g', 0, none⟩) (ss.length + 1) cap' /\ w0.heap.size <= g' /\ w3.heap[g']? = some (.cells cur' 9 (0, 0)) /\ ss.length + 1 <= cap' /\ cap' <= maxLen /\ cur'.size = cap' * 1 /\ cur'.toList.take ((ss.length + 1) * 1) = ss.flatMap qL ++ [.string q1] := by
         rcases hown'.2 with ⟨_, h0⟩ | h'
         · exact absurd h0 (by omega)
         · exact h'
       go_frame)
    | (rw [Oper.semAt_eq _ _ _ (fun c h => by cases h)]; go_simp; try go_bits))
  have hg3' : (W2.alloc (.cells #[.string q1] 9)).grownBy w3 v.ownBlock := hg3;have hL3 : w3.heap[l]? = some (.loop { nS fn sv Bs D .ready none with state := .busy }) := (hg3'.block l (by simp; omega) (qU hL2 (fun cur e => by cases e))).trans ((Below.heap_alloc _ _ l hl2).trans hL2);have hK3 : w3.heap[D]? = some (.deferred (some [])) := (hg3'.block D (by simp; omega) (qU hK2 (fun cur e => by cases e))).trans ((Below.heap_alloc _ _ D hDlt).trans hK2);obtain ⟨w4, hw4⟩ : ∃ w4, w3.setCell ⟨Bs, 0, none⟩ (.slice (some ⟨g', 0, none⟩) (ss.length + 1) cap') = w4 := ⟨_, rfl⟩;rw [hw4];have hg4 : w3.grownBy w4 (some Bs) := by rw [<- hw4]; exact grownBy_setCell0_a _ _ _
  have hv4 : w4.heap[Bs]? = some (.cells #[.slice (some ⟨g', 0, none⟩) (ss.length + 1) cap'] 24 (0, 0)) := by rw [<- hw4]; exact heap_setCell_box_a _ hv3
  have hL4 : w4.heap[l]? = some (.loop { nS fn sv Bs D .ready none with state := .busy }) := (hg4.block l (cg.1 hL3).1 (fun e => hBl (by cases e; rfl))).trans hL3;have hK4 : w4.heap[D]? = some (.deferred (some [])) := (hg4.block D (cg.1 hK3).1 (fun e => hDB (by cases e; rfl))).trans hK3;have hrow4 := hown'.kept hg4 (ownsRow_ne_a hown' hv3 (fun cur e => by cases e));have hl4 : l < w4.heap.size := (cg.1 hL4).1;have hb3 : Below w0.heap.size w0 w3 := (hb2.alloc hb2.size _).grown hg3' (by have := hb2.size; simp; omega) (fun k e => (hrow2.lt k e).1);have hb4 : Below w0.heap.size w0 w4 := hb3.grown hg4 hb3.size (fun k e => by cases e; exact h0B);have hk4 : ml W w4 := ((hk2.trans (KeepsWalks.alloc _ _)).trans (KeepsWalks.of_grownBy hg3' (ownsRow_not_walk_a (hrow2.alloc _)))).trans (by rw [<- hw4]; exact KeepsWalks.setCell _ _ _);clear hw4;have hb5 := hb4.grown (grownBy_putObj_a w4 l (.loop { { nS fn sv Bs D .ready none with state := .busy } with state := if (none : Option Code).isNone then .ready else .done, pending := none })) hb4.size (fun k e => by cases e; exact h0l);have hk5 := hk4.trans (KeepsWalks.putObj (.loop { { nS fn sv Bs D .ready none with state := .busy } with state := if (none : Option Code).isNone then .ready else .done, pending := none }) hL4 rfl);refine ⟨_, _, run_endRound none hL4, rfl, ⟨⟨_, (ba hBl).trans hv4, ?_, by simp⟩, oR hl4, (ba hDl).trans hK4, hb5⟩, hk5, F_ h'.below hb5 hk5.size⟩;have := hrow4.kept (grownBy_putObj_a w4 l (.loop { { nS fn sv Bs D .ready none with state := .busy } with state := if (none : Option Code).isNone then .ready else .done, pending := none })) (ownsRow_ne_a hrow4 hL4 (fun cur e => by cases e));simpa [qL] using this
set_option maxRecDepth 100000 in
theorem K8(F : Fence)(n : Nat)(hF : F.fn 171)(hro : F.round = none)(hn : 2 <= n)(g : Nat)(lb : Array ο)(hFg : F.fn g)(eg : ∀ args w, (callFunc g args).run κ w = .ok (.enter g args) w)
    (S : List (ByteArray) -> Prop)(N : Nat)(hN : N <= maxLen)(hNb : N * 16 <= 140737488355328)(w : Γ)(hseq : SeqStopsK F (n - 1) κ g lb (fun x => #[encS x]) (OT w.heap.size) S (fun _ => True) N w) :
    CallsIn F n κ 171 #[.slice none 0 0, .func (.func g) #[] lb] w fun e w' => ∃ (v : ο) (ss : List (ByteArray)), e = .returned v /\ S ss /\ w'.ownsRow w.heap.size 9 1 v ss.length (ss.flatMap qL) /\ (v = .slice none 0 0 ↔ ss = []) /\ Below w.heap.size w w' := by
  have h1 : 1 <= n := by omega
  refine callsIn_of_wp_marks Tryz.func171 rfl hF ?_ hro;simp only [Tryz.ntmps171, l7, IT, aq, μ, se, kq, kz, mh, l9, cz, ey]
  gi_wp2
  refine wpIn_rangeFunc ?_;intro fn hfn;rw [hro];obtain ⟨W0, hW0⟩ : ∃ W0, w.alloc (.cells #[.slice none 0 0] 24) = W0 := ⟨_, rfl⟩;have hs0 : W0.heap.size = w.heap.size + 1 := by rw [<- hW0]; simp
  have hv0 : W0.heap[w.heap.size]? = some (.cells #[.slice none 0 0] 24 (0, 0)) := by rw [<- hW0]; exact fw w _
  have hb0 : Below w.heap.size w W0 := by rw [<- hW0]; exact(Below.refl _ w).alloc (OF _) _
  rw [hW0];obtain ⟨W1, hW1⟩ : ∃ W1, (W0.alloc (.deferred (some []))).alloc (.loop (nS fn (.func (.func g) #[] lb) w.heap.size W0.heap.size .ready none)) = W1 := ⟨_, rfl⟩
  have hold : ∀ k, k < W0.heap.size -> W1.heap[k]? = W0.heap[k]? := fun k hk => by
    rw [<- hW1]; exact(Below.heap_alloc _ _ k (by simp; omega)).trans (Below.heap_alloc _ _ k hk)
  have hb1 : Below w.heap.size w W1 := by rw [<- hW1]; exact(hb0.alloc hb0.size _).alloc (by have := hb0.size; simp; omega) _
  have hM : JG w fn (.func (.func g) #[] lb) w.heap.size (W0.heap.size + 1) W0.heap.size [] W1 :=
    ⟨⟨_, (hold w.heap.size (by omega)).trans hv0, ⟨rfl, .inl ⟨rfl, rfl⟩⟩, by simp⟩,
     by rw [<- hW1]; have := fw (W0.alloc (.deferred (some []))) (.loop (nS fn (.func (.func g) #[] lb) w.heap.size W0.heap.size .ready none)); rwa [World.size_alloc] at this,
     by rw [<- hW1]; exact(Below.heap_alloc _ _ _ (by simp)).trans (fw W0 _), hb1⟩
  refine ⟨W0.heap.size + 1, [{ target := .collected W0.heap.size, args := #[] }], W1, { target := .fn (.func g) lb, args := #[.func (.yield (W0.heap.size + 1)) #[] #[]] }, W1, g,
    #[.func (.yield (W0.heap.size + 1)) #[] #[]] ++ lb, W1, ?_, ?_, ?_, ?_, fun _ => h1, ?_⟩
  · rw [<- hW1]; exact run_enterLoop_outer _ _ _ _ _
  · simp [resolve, go_sem]
  · intro f' hf'; simp [Target.leads] at hf'; subst hf'; exact hFg
  · simp [invoke, go_sem, eg]
  · refine(hseq (W0.heap.size + 1) (JG w fn (.func (.func g) #[] lb) w.heap.size (W0.heap.size + 1) W0.heap.size) (fun _ _ => False) W1 hb1 (K_ _ _ _ _ _ _ _ hb1.size) (fun _ _ _ _ h _ _ => h)
      (fun pre x W hJ hl => by
        obtain ⟨fn', tmps, assign, body, hy, hR⟩ := Sf F (n - 1 - 1) w fn hfn _ w.heap.size (W0.heap.size + 1) W0.heap.size (by omega) (by omega) (by omega) (OF _) (by omega) N hN hNb pre x W hJ hl;exact ⟨fn', tmps, assign, body, hy, hR.mono fun e W' h => .inl h⟩) hM).mono ?_
    rintro e W2 ⟨⟨v0, rfl⟩, ⟨ss, hS, h2⟩ | ⟨_, _, hf⟩⟩
    case inr => exact hf.elim
    obtain ⟨v, hv, hrow, hnil⟩ := h2.box;have hend := run_endLoop (P := κ) h2.L (by simp [nS]);obtain ⟨W3, hW3⟩ : ∃ W3, W2.putObj (W0.heap.size + 1) (.loop { nS fn (.func (.func g) #[] lb) w.heap.size W0.heap.size .ready none with state := .exhausted }) = W3 := ⟨_, rfl⟩;rw [hW3] at hend;have hg3 : W2.grownBy W3 (some (W0.heap.size + 1)) := by rw [<- hW3]; exact grownBy_putObj_a _ _ _
    have hv3 : W3.heap[w.heap.size]? = some (.cells #[v] 24 (0, 0)) := by rw [<- hW3]; exact(ba (by omega)).trans hv
    have hK3 : W3.heap[W0.heap.size]? = some (.deferred (some [])) := by rw [<- hW3]; exact(ba (by omega)).trans h2.K
    have hrow3 := hrow.kept hg3 (ownsRow_ne_a hrow h2.L (fun cur e => by cases e));have hb3 : Below w.heap.size w W3 := h2.below.grown hg3 h2.below.size (fun k e => by cases e; omega);obtain ⟨hc3, hf3⟩ := cell_of_box_a hv3;clear hW3;refine ⟨none, W3, hend, ?_⟩
    gi_wp2
    rw [<- hs0];refine ⟨by simp, .inl ⟨_, _, rfl, run_takeDeferred hK3, ?_⟩⟩;exact ⟨_, results_tmp rfl _ _ _, v, ss, rfl, hS, hrow3.kept (grownBy_putObj_a _ _ _) (ownsRow_ne_a hrow3 hK3 (fun cur e => by cases e)), hnil, hb3.grown (grownBy_putObj_a _ _ _) hb3.size (fun k e => by cases e; omega)⟩
theorem RE(F:Fence)(n:Nat)(hC:F.fn 130)(hF:F.fn 171)(hro:F.round=none)(hn:3<=n)(g:Nat)(lb:Array ο)(hFg:F.fn g)(eg:∀args w,(callFunc g args).run κ w=.ok (.enter g args) w)
  (S:List (ByteArray)->Prop)(N:Nat)(hN:N<=maxLen)(hNb:N*16<=140737488355328)(w:Γ)(hseq:SeqStopsK F (n-1-1) κ g lb (λx=>#[encS x]) (OT w.heap.size) S (λ_=>True) N w) :
  CallsIn F n κ 130 #[.func (.func g) #[] lb] w λe w'=>∃(v:ο) (ss:List (ByteArray)),e=.returned v/\S ss/\w'.ownsRow w.heap.size 9 1 v ss.length (ss.flatMap qL)/\(v=.slice none 0 0 ↔ ss=[])/\Below w.heap.size w w':=by
 have h1:1<=n:=by omega
 refine callsIn_of_wp Tryz.func130 rfl hC ?_ hro;simp only[Tryz.ntmps130,l7,IT,aq,μ,se,kq,kz,mh,l9,cz,ey]
 gi_wp2_with (gi_at_call 171;refine(K8 F (n-1) hF hro (by omega) g lb hFg eg S N hN hNb _ hseq).mono ?_;rintro e w' ⟨v,ss,rfl,hS,hrow,hnil,hb⟩)
 go_ret
 exact⟨v,ss,rfl,hS,hrow,hnil,hb⟩
end Go.AxC
namespace Go.Proofs
open Go.Shelf
def Tryz.sort79_ren:Go.Shelf.Ren:=⟨fun | 6=>79 | 8=>124 | 9=>123 | 19=>169 | 20=>170 | 21=>160 | 22=>161 | 23=>162 | 24=>163 | 25=>164 | 26=>165 | 27=>166 | 28=>167 | 29=>168 | 36=>191 | 31=>192 | 32=>193 | 37=>194 | 38=>195 | 39=>189 | 41=>228 | n=>n,fun | 27=>24 | 29=>9 | 3=>3 | 32=>151 | 26=>24 | 0=>0 | 44=>186 | 46=>188 | 4=>4 | 36=>179 | 35=>178 | 41=>133 | 5=>5 | 9=>9 | 53=>210 | 57=>214 | 63=>240 | 64=>241 | n=>n,fun | n=>n⟩
theorem Tryz.sort79:Go.Proofs.SlLaysM.n6 κ Tryz.sort79_ren:={
 mixed:=by kernel_rfl
 f6:=⟨Tryz.f79.name,by decide,Tryz.func79.trans (b8 some (by kernel_rfl))⟩
 f8:=Tryz.func124.trans (b8 some (by kernel_rfl))
 f9:=⟨Tryz.f123.name,by decide,Tryz.func123.trans (b8 some (by kernel_rfl))⟩
 f19:=Tryz.func169.trans (b8 some (by kernel_rfl))
 f20:=Tryz.func170.trans (b8 some (by kernel_rfl))
 f21:=⟨Tryz.f160.name,by decide,Tryz.func160.trans (b8 some (by kernel_rfl))⟩
 f22:=⟨Tryz.f161.name,by decide,Tryz.func161.trans (b8 some (by kernel_rfl))⟩
 f23:=⟨Tryz.f162.name,by decide,Tryz.func162.trans (b8 some (by kernel_rfl))⟩
 f24:=⟨Tryz.f163.name,by decide,Tryz.func163.trans (b8 some (by kernel_rfl))⟩
 f25:=⟨Tryz.f164.name,by decide,Tryz.func164.trans (b8 some (by kernel_rfl))⟩
 f26:=⟨Tryz.f165.name,by decide,Tryz.func165.trans (b8 some (by kernel_rfl))⟩
 f27:=⟨Tryz.f166.name,by decide,Tryz.func166.trans (b8 some (by kernel_rfl))⟩
 f28:=⟨Tryz.f167.name,by decide,Tryz.func167.trans (b8 some (by kernel_rfl))⟩
 f29:=⟨Tryz.f168.name,by decide,Tryz.func168.trans (b8 some (by kernel_rfl))⟩
 f31:=Tryz.func192.trans (b8 some (by kernel_rfl))
 f32:=Tryz.func193.trans (b8 some (by kernel_rfl))
 f36:=⟨Tryz.f191.name,by decide,Tryz.func191.trans (b8 some (by kernel_rfl))⟩
 f37:=⟨Tryz.f194.name,by decide,Tryz.func194.trans (b8 some (by kernel_rfl))⟩
 f38:=⟨Tryz.f195.name,by decide,Tryz.func195.trans (b8 some (by kernel_rfl))⟩
 f39:=⟨Tryz.f189.name,by decide,Tryz.func189.trans (b8 some (by kernel_rfl))⟩
 f41:=⟨Tryz.f228.name,by decide,Tryz.func228.trans (b8 some (by kernel_rfl))⟩
 t0:=Tryz.underlying0
 a0:=Tryz.isAgg0
 z0:=Tryz.sizeOf0
 v0:=Tryz.zeroValue0
 t3:=cD
 a3:=Tryz.isAgg3
 z3:=Tryz.sizeOf3
 v3:=rg
 t4:=dE
 a4:=Tryz.isAgg4
 z4:=Tryz.sizeOf4
 v4:=Tryz.zeroValue4
 t5:=fy
 a5:=Tryz.isAgg5
 z5:=Tryz.sizeOf5
 v5:=rh
 t9:=aE
 a9:=Tryz.isAgg9
 z9:=Tryz.sizeOf9
 v9:=pi
 t26:=py
 a26:=Tryz.isAgg24
 z26:=Tryz.sizeOf24
 v26:=Tryz.zeroValue24
 t27:=py
 a27:=Tryz.isAgg24
 z27:=Tryz.sizeOf24
 v27:=Tryz.zeroValue24
 t29:=aE
 a29:=Tryz.isAgg9
 z29:=Tryz.sizeOf9
 v29:=pi
 t32:=rq
 a32:=Tryz.isAgg151
 z32:=Tryz.sizeOf151
 v32:=Tryz.zeroValue151
 t35:=Tryz.underlying178
 a35:=Tryz.isAgg178
 z35:=Tryz.sizeOf178
 v35:=Tryz.zeroValue178
 t36:=Tryz.underlying179
 a36:=Tryz.isAgg179
 z36:=Tryz.sizeOf179
 v36:=Tryz.zeroValue179
 t41:=Tryz.underlying133
 a41:=Tryz.isAgg133
 z41:=Tryz.sizeOf133
 v41:=Tryz.zeroValue133
 t44:=rr
 a44:=Tryz.isAgg186
 z44:=Tryz.sizeOf186
 v44:=Tryz.zeroValue186
 t46:=Tryz.underlying188
 a46:=Tryz.isAgg188
 z46:=Tryz.sizeOf188
 v46:=Tryz.zeroValue188
 t53:=Tryz.underlying210
 a53:=Tryz.isAgg210
 z53:=Tryz.sizeOf210
 v53:=Tryz.zeroValue210
 t57:=Tryz.underlying214
 a57:=Tryz.isAgg214
 z57:=Tryz.sizeOf214
 v57:=Tryz.zeroValue214
 t63:=Tryz.underlying240
 a63:=Tryz.isAgg240
 z63:=Tryz.sizeOf240
 v63:=Tryz.zeroValue240
 t64:=Tryz.underlying241
 a64:=Tryz.isAgg241
 z64:=Tryz.sizeOf241
 v64:=Tryz.zeroValue241 }
def Tryz.sort153_ren:Go.Shelf.Ren:=⟨fun | 6=>153 | 15=>124 | 14=>188 | 28=>169 | 29=>170 | 20=>220 | 21=>221 | 22=>222 | 23=>223 | 24=>224 | 25=>225 | 26=>226 | 27=>227 | 46=>255 | 47=>192 | 48=>193 | 49=>256 | 50=>257 | 57=>296 | n=>n,fun | 22=>23 | 24=>51 | 25=>145 | 3=>3 | 39=>151 | 0=>0 | 53=>186 | 55=>188 | 4=>4 | 46=>179 | 45=>178 | 50=>133 | 5=>5 | 9=>9 | 66=>210 | 70=>214 | 76=>240 | 77=>241 | n=>n,fun | n=>n⟩
theorem Tryz.sort153:Go.Proofs.SlLaysF0.n6 κ Tryz.sort153_ren:={
 mixed:=by kernel_rfl
 f6:=⟨Tryz.f153.name,by decide,Tryz.func153.trans (b8 some (by kernel_rfl))⟩
 f14:=⟨Tryz.f188.name,by decide,Tryz.func188.trans (b8 some (by kernel_rfl))⟩
 f15:=Tryz.func124.trans (b8 some (by kernel_rfl))
 f20:=⟨Tryz.f220.name,by decide,Tryz.func220.trans (b8 some (by kernel_rfl))⟩
 f21:=⟨Tryz.f221.name,by decide,Tryz.func221.trans (b8 some (by kernel_rfl))⟩
 f22:=⟨Tryz.f222.name,by decide,Tryz.func222.trans (b8 some (by kernel_rfl))⟩
 f23:=⟨Tryz.f223.name,by decide,Tryz.func223.trans (b8 some (by kernel_rfl))⟩
 f24:=⟨Tryz.f224.name,by decide,Tryz.func224.trans (b8 some (by kernel_rfl))⟩
 f25:=⟨Tryz.f225.name,by decide,Tryz.func225.trans (b8 some (by kernel_rfl))⟩
 f26:=⟨Tryz.f226.name,by decide,Tryz.func226.trans (b8 some (by kernel_rfl))⟩
 f27:=⟨Tryz.f227.name,by decide,Tryz.func227.trans (b8 some (by kernel_rfl))⟩
 f28:=Tryz.func169.trans (b8 some (by kernel_rfl))
 f29:=Tryz.func170.trans (b8 some (by kernel_rfl))
 f46:=⟨Tryz.f255.name,by decide,Tryz.func255.trans (b8 some (by kernel_rfl))⟩
 f47:=Tryz.func192.trans (b8 some (by kernel_rfl))
 f48:=Tryz.func193.trans (b8 some (by kernel_rfl))
 f49:=⟨Tryz.f256.name,by decide,Tryz.func256.trans (b8 some (by kernel_rfl))⟩
 f50:=⟨Tryz.f257.name,by decide,Tryz.func257.trans (b8 some (by kernel_rfl))⟩
 f57:=⟨Tryz.f296.name,by decide,Tryz.func296.trans (b8 some (by kernel_rfl))⟩
 t0:=Tryz.underlying0
 a0:=Tryz.isAgg0
 z0:=Tryz.sizeOf0
 v0:=Tryz.zeroValue0
 t3:=cD
 a3:=Tryz.isAgg3
 z3:=Tryz.sizeOf3
 v3:=rg
 t4:=dE
 a4:=Tryz.isAgg4
 z4:=Tryz.sizeOf4
 v4:=Tryz.zeroValue4
 t5:=fy
 a5:=Tryz.isAgg5
 z5:=Tryz.sizeOf5
 v5:=rh
 t9:=aE
 a9:=Tryz.isAgg9
 z9:=Tryz.sizeOf9
 v9:=pi
 t22:=Tryz.underlying23
 a22:=Tryz.isAgg23
 z22:=Tryz.sizeOf23
 v22:=Tryz.zeroValue23
 t25:=Tryz.underlying145
 a25:=Tryz.isAgg145
 z25:=Tryz.sizeOf145
 v25:=Tryz.zeroValue145
 t39:=rq
 a39:=Tryz.isAgg151
 z39:=Tryz.sizeOf151
 v39:=Tryz.zeroValue151
 t45:=Tryz.underlying178
 a45:=Tryz.isAgg178
 z45:=Tryz.sizeOf178
 v45:=Tryz.zeroValue178
 t46:=Tryz.underlying179
 a46:=Tryz.isAgg179
 z46:=Tryz.sizeOf179
 v46:=Tryz.zeroValue179
 t50:=Tryz.underlying133
 a50:=Tryz.isAgg133
 z50:=Tryz.sizeOf133
 v50:=Tryz.zeroValue133
 t53:=rr
 a53:=Tryz.isAgg186
 z53:=Tryz.sizeOf186
 v53:=Tryz.zeroValue186
 t55:=Tryz.underlying188
 a55:=Tryz.isAgg188
 z55:=Tryz.sizeOf188
 v55:=Tryz.zeroValue188
 t66:=Tryz.underlying210
 a66:=Tryz.isAgg210
 z66:=Tryz.sizeOf210
 v66:=Tryz.zeroValue210
 t70:=Tryz.underlying214
 a70:=Tryz.isAgg214
 z70:=Tryz.sizeOf214
 v70:=Tryz.zeroValue214
 t76:=Tryz.underlying240
 a76:=Tryz.isAgg240
 z76:=Tryz.sizeOf240
 v76:=Tryz.zeroValue240
 t77:=Tryz.underlying241
 a77:=Tryz.isAgg241
 z77:=Tryz.sizeOf241
 v77:=Tryz.zeroValue241 }
end Go.Proofs
namespace Go.AxC
open Go Go.Proofs Go.Ax Go.RowKit Go.Maps Go.Sort Go.Shelf
def CQ(s t:ByteArray):Int:=match bi s.toList t.toList with
 |true=>-1
 |false=>match bi t.toList s.toList with
  |true=>1
  |false=>0
def DA(x y:Bool × ByteArray):Int:=match x.1,y.1 with
 |true,false=>1
 |false,true=>-1
 |_,_=>CQ x.2 y.2
theorem T1(s:ByteArray)(w:Γ):Calls κ 189 #[.string s] w λe w'=>e=.returned (.bool false)/\w'=w:=by
 go_enter Tryz.func189,Tryz.ntmps189
 go_wp2
 go_ret
 exact⟨rfl,rfl⟩
theorem Ct:∀a b:List UInt8,(!bi a b && !(a==b))=bi b a
 | [],[]=>by decide
 | [],b::y=>by simp[bi]
 |a::x,[]=>by simp[bi]
 |a::x,b::y=>by
  have ih:=Ct x y;simp only[bi,List.cons_beq_cons];rcases jn a.toNat b.toNat with h | h | h
  ·have h1:a<b:=o8.2 h;have h2:¬ b<a:=λe=>by have:=o8.1 e;omega
   have h3:¬ b=a:=λe=>by subst e;omega
   simp[h1,h2,h3]
  ·have h0:a=b:=UInt8.toNat_inj.1 h;subst h0;have h2:¬ a<a:=λe=>by have:=o8.1 e;omega
   simp only[h2,decide_false,qi,jd,Bool.false_or];exact ih
  ·have h1:b<a:=o8.2 h;have h2:¬ a<b:=λe=>by have:=o8.1 e;omega
   have h3:¬ a=b:=λe=>by subst e;omega
   simp[h1,h2,h3]
theorem Nu(s t:ByteArray)(w:Γ):(binOp .gtr 9 (.string s) (.string t)).run κ w=.ok (.bool (bi t.toList s.toList)) w:=by
 simp only[binOp];simp only[Op.stringOp,Bool.not_or,Ct];rfl
theorem Ot(s t:ByteArray)(w:Γ):Calls κ 155 #[.string s,.string t] w λe w'=>e=.returned (.int .i64 (CQ s t))/\w'=w:=by
 have hg:=Nu s t w
 go_enter Tryz.func155,Tryz.ntmps155
 go_wp2_with (go_at_call 189;refine(T1 _ _).mono ?_;rintro e w' ⟨rfl,rfl⟩)
 all_goals go_ret
 all_goals refine⟨?_,rfl⟩
 all_goals simp[CQ, *]
theorem Tj(x y : Bool × ByteArray)(w : Γ) : Calls κ 118 #[rI x, rI y] w fun e w' => e = .returned (.int .i64 (DA x y)) /\ ∃ os, w' = grow w os := by
  obtain ⟨x1, x2⟩ := x;obtain ⟨y1, y2⟩ := y
  suffices h : Calls κ 118 #[.agg #[.bool x1, .string x2], .agg #[.bool y1, .string y2]] w fun e w' => e = .returned (.int .i64 (DA (x1, x2) (y1, y2))) /\ w' = grow w #[.cells #[.bool x1, .string x2] 51, .cells #[.bool y1, .string y2] 51] from h.mono fun e w' ⟨h1, h2⟩ => ⟨h1, _, h2⟩
  have hw : grow w #[.cells #[.bool x1, .string x2] 51, .cells #[.bool y1, .string y2] 51] = (w.alloc (.cells #[.bool x1, .string x2] 51)).alloc (.cells #[.bool y1, .string y2] 51) := by
    simp only [alloc_eq_grow, grow_grow]; rfl
  rw [hw];clear hw;cases x1 <;> cases y1 <;>
  (go_enter Tryz.func118, Tryz.ntmps118
   go_wp2_with (go_at_call 155; refine(Ot _ _ _).mono ?_; rintro e w' ⟨rfl, rfl⟩)
   go_ret
   exact ⟨rfl, rfl⟩)
end Go.AxC
namespace Go.AxC
open Go Go.Proofs Go.Ax Go.RowKit Go.Sort
section
structure Sm {α:Type} (lt:α->α->Bool):Prop where
 irrefl:∀x,lt x x=false
 trans:∀x y z,lt x y=true->lt y z=true->lt x z=true
 total:∀x y,lt x y=false->lt y x=false->x=y
section
variable {α:Type}{lt:α->α->Bool}
theorem Sm.asymm(h:Sm lt){x y:α}(hx:lt x y=true):lt y x=false:=by
 cases hy:lt y x with
 |false=>rfl
 |true=>have:=h.trans _ _ _ hx hy;rw[h.irrefl]at this;cases this
theorem Sm.swo(h:Sm lt):SWO lt:=by
 refine⟨h.irrefl,h.trans,λx y z h1 h2=>?_⟩;cases h3:lt x z with
 |false=>rfl
 |true=>
  cases h4:lt z y with
  |true=>have:=h.trans _ _ _ h3 h4;rw[h1]at this;cases this
  |false=>
   have:=h.total _ _ h2 h4;subst this;rw[h1]at h3;cases h3
def Cb(lt:α->α->Bool)(x:α):List α->List α
 | []=>[x]
 |y::r=>if lt x y then x::y::r else y::Cb lt x r
def iR(lt:α->α->Bool)(l:List α):List α:=l.foldl (λacc x=>Cb lt x acc) []
def Va(lt:α->α->Bool)(l:List α):Prop:=l.Pairwise λx y=>lt y x=false
theorem A7(x:α):∀l,(Cb lt x l).Perm (x::l)
 | []=>.refl _
 |y::r=>by
  simp only[Cb];split
  ·exact .refl _
  ·exact((A7 x r).cons y).trans (.swap x y r)
theorem I3(h:Sm lt)(x:α):∀l,Va lt l->Va lt (Cb lt x l)
 | [],_=>by simp[Cb,Va]
 |y::r,hs=>by
  rw[Va,jr]at hs;obtain⟨h1,h2⟩:=hs;simp only[Cb];split
  ·rename_i hxy;refine jr.2 ⟨λz hz=>?_,jr.2 ⟨h1,h2⟩⟩;rcases IN.1 hz with rfl | hz
   ·exact h.asymm hxy
   ·cases hzx:lt z x with
    |false=>rfl
    |true=>have:=h.trans _ _ _ hzx hxy;rw[h1 z hz]at this;cases this
  ·rename_i hxy;refine jr.2 ⟨λz hz=>?_,I3 h x r h2⟩;rcases IN.1 ((A7 x r).mem_iff.1 hz) with rfl | hz
   ·simpa using hxy
   ·exact h1 z hz
theorem DQ:∀(l acc:List α),(l.foldl (λacc x=>Cb lt x acc) acc).Perm (acc++l)
 | [],acc=>by simp
 |x::l,acc=>by
  refine(DQ l _).trans ?_;refine((A7 x acc).append_right l).trans ?_;exact jt.symm
theorem lS(l:List α):(iR lt l).Perm l:=by
 have:=DQ (lt:=lt) l [];rw[cz]at this;exact this
theorem FW(h:Sm lt):∀(l acc:List α),Va lt acc->Va lt (l.foldl (λacc x=>Cb lt x acc) acc)
 | [],acc,ha=>ha
 |x::l,acc,ha=>FW h l _ (I3 h x acc ha)
theorem wF(h:Sm lt)(l:List α):Va lt (iR lt l):=FW h l [] List.Pairwise.nil
theorem VT(h:Sm lt){l l':List α}(hp:l.Perm l')(h1:Va lt l)(h2:Va lt l'):l=l':=
 rb (le:=λx y=>lt y x=false) (λa b _ _ ha hb=>h.total _ _ hb ha) h1 h2 hp
theorem HW(h:Sm lt){l l':List α}(hp:l.Perm l'):iR lt l=iR lt l':=VT h ((lS l).trans (hp.trans (lS l').symm)) (wF h l) (wF h l')
theorem I2{lk:List V->List V->Bool}(abs:α->List V)(x:α):∀l,DH lk (abs x) (l.map abs)=(Cb (λx y=>lk (abs x) (abs y)) x l).map abs
 | []=>rfl
 |y::r=>by
  simp only[bj,DH,Cb];split
  ·rfl
  ·simp only[bj,I2 abs x r]
theorem FV{lk:List V->List V->Bool}(abs:α->List V):∀(l acc:List α),(l.map abs).foldl (λacc x=>DH lk x acc) (acc.map abs)=(l.foldl (λacc x=>Cb (λx y=>lk (abs x) (abs y)) x acc) acc).map abs
 | [],_=>rfl
 |x::l,acc=>by
  simp only[bj,jh,I2];exact FV abs l _
theorem AG{lk:List V->List V->Bool}(abs:α->List V)(l:List α):lA lk (l.map abs)=(iR (λx y=>lk (abs x) (abs y)) l).map abs:=FV abs l []
end
def pH(x:ByteArray):List V:=[.str (fY x)]
def Bn(x:Bool × ByteArray):List V:=[.bool x.1,.str (fY x.2)]
def EH(x y:ByteArray):Bool:=strLt (pH x) (pH y)
def Ml(x y:Bool × ByteArray):Bool:=qE (Bn x) (Bn y)
theorem BK(a:List UInt8):bi a a=false:=by
 have:=Ct a a;simpa using this.symm
theorem yE(a b c:List UInt8)(h1:bi a b=true)(h2:bi b c=true):bi a c=true:=by
 rw[bytesLess_eq]at *;simp only[af]at *;exact List.lt_trans h1 h2
theorem yF(a b:List UInt8)(h1:bi a b=false)(h2:bi b a=false):a=b:=by
 have:=Ct a b;rw[h1,h2]at this;simpa using this
theorem toList_data(x:ByteArray):x.toList=x.data.toList:=by rw[ByteArray.toList_eq]
theorem Du(x y:ByteArray):EH x y=bi x.data.toList y.data.toList:=by
 show slt (fY x) (fY y)=_;exact E8 _ _
theorem Ob{x y:ByteArray}(h:x.data.toList=y.data.toList):x=y:=by
 cases x;cases y;simp only[ByteArray.mk.injEq];exact Array.toList_inj.1 h
theorem Pn:Sm EH:=by
 refine⟨λx=>?_,λx y z h1 h2=>?_,λx y h1 h2=>?_⟩
 ·rw[Du];exact BK _
 ·rw[Du]at *;exact yE _ _ _ h1 h2
 ·rw[Du]at *;exact Ob (yF _ _ h1 h2)
theorem GX(x y:Bool × ByteArray):Ml x y=match x.1,y.1 with
  |false,true=>true
  |true,false=>false
  |_,_=>EH x.2 y.2:=by
 obtain⟨a,x⟩:=x;obtain⟨b,y⟩:=y;cases a <;> cases b <;> rfl
theorem J1:Sm Ml:=by
 refine⟨λx=>?_,λx y z h1 h2=>?_,λx y h1 h2=>?_⟩
 ·rw[GX];obtain⟨a,x⟩:=x;cases a <;> exact Pn.irrefl _
 ·rw[GX]at *;obtain⟨a,x⟩:=x;obtain⟨b,y⟩:=y;obtain⟨c,z⟩:=z;cases a <;> cases b <;> cases c <;> dsimp only at * <;> first | rfl | exact Pn.trans _ _ _ h1 h2 | (cases h1;done) | (cases h2;done)
 ·rw[GX]at *;obtain⟨a,x⟩:=x;obtain⟨b,y⟩:=y;cases a <;> cases b <;> dsimp only at * <;> first | (cases h1;done) | (cases h2;done) | (have:=Pn.total _ _ h1 h2;subst this;rfl)
theorem Dv:ltOf DA=Ml:=by
 funext x y;rw[GX];obtain⟨a,x⟩:=x;obtain⟨b,y⟩:=y
 have hs:decide (CQ x y<0)=EH x y:=by
  rw[Du];simp only[CQ,toList_data];cases bi x.data.toList y.data.toList <;> cases bi y.data.toList x.data.toList <;> rfl
 cases a <;> cases b <;> first | rfl | exact hs
theorem BI(ss:List ByteArray):(ss.map λx=>x.data.toList).mergeSort (λx y=>decide (x<=y))=(iR EH ss).map λx=>x.data.toList:=by
 have e:(λx y:List UInt8=>decide (x<=y))=λx y=>!bi y x:=by
  funext x y;rw[bytesLess_eq];simp only[<- decide_not];congr 1
 rw[e];refine rb (le:=λx y=>bi y x=false) (λa b _ _ ha hb=>yF _ _ hb ha) ?_ ?_ ?_
 ·have:=List.pairwise_mergeSort (le:=λx y=>!bi y x) (λa b c h1 h2=>by
   simp only[gu]at *;cases h:bi c a with
   |false=>rfl
   |true=>
    cases h3:bi b c with
    |true=>have:=yE _ _ _ h3 h;rw[h1]at this;cases this
    |false=>have:=yF _ _ h3 h2;subst this;rw[h1]at h;cases h) (λa b=>by
   cases h:bi b a with
   |false=>simp
   |true=>
    cases h2:bi a b with
    |false=>simp
    |true=>have:=yE _ _ _ h h2;rw[BK]at this;cases this) (ss.map λx=>x.data.toList)
  exact this.imp (by simp)
 ·rw[List.pairwise_map];have:=wF Pn ss;exact this.imp (λ{a b} h=>by rw[Du]at h;exact h)
 ·exact(List.mergeSort_perm _ _).trans ((lS ss).symm.map _)
theorem IC(ss:List (Bool × ByteArray)):ss.mergeSort (λx y=>!Ml y x)=iR Ml ss:=by
 refine rb (le:=λx y=>Ml y x=false) (λa b _ _ ha hb=>J1.total _ _ hb ha) ?_ (wF J1 ss) ((List.mergeSort_perm _ _).trans (lS ss).symm)
 have:=List.pairwise_mergeSort (le:=λx y=>!Ml y x) (λa b c h1 h2=>by
   simp only[gu]at *;exact J1.swo.ntrans _ _ _ h2 h1) (λa b=>by
   cases h:Ml b a with
   |false=>simp
   |true=>simp[J1.asymm h]) ss
 exact this.imp (by simp)
end
end Go.AxC
namespace Go.AxC
open Go Go.Proofs Go.Ax Go.RowKit Go.Maps Go.Sort Go.Shelf
theorem BR(x:ByteArray):encStr x.data.toList=encS x:=by
 cases x;simp[encStr,encS]
theorem Bc(ss:List ByteArray):ss.flatMap qL=(ss.map λx=>x.data.toList).map encStr:=by
 induction ss with
 |nil=>rfl
 |cons x r ih=>simp only[fg,bj,ih,BR];rfl
theorem S1(w:Γ)(g:Nat)(lb:Array ο)(eg:∀args w,(callFunc g args).run κ w=.ok (.enter g args) w)
  (S:List ByteArray->Prop)(N:Nat)(hN:N<=maxLen)(hNb:N*16<=140737488355328)(hSN:∀ss,S ss->ss.length<=N)(hseq:SeqStopsK oT 2 κ g lb (λx=>#[encS x]) (OT w.heap.size) S (λ_=>True) N w) :
  Calls κ 94 #[.func (.func g) #[] lb] w λe w'=>∃(v:ο) (ss:List ByteArray),e=.returned v/\S ss /\
   w'.ownsRow w.heap.size 9 1 v ss.length ((iR EH ss).flatMap qL)/\(v=.slice none 0 0 ↔ ss=[])/\Below w.heap.size w w':=by
 have hC:=callsIn_wide.1 (RE oT 4 trivial trivial rfl (by omega) g lb trivial eg S N hN hNb w hseq)
 go_enter Tryz.func94,Tryz.ntmps94
 go_wp2_with (go_at_call 130;refine hC.mono ?_;rintro e W ⟨v,ss,rfl,hS,hrow,hnil,hb⟩)
 rcases hrow.2 with⟨rfl,hz⟩ | ⟨gb,cap,cur,rfl,hbase,hgb,r1,r2,r3,r4⟩
 ·have hss:ss=[]:=m9 hz;subst hss;have hN:=AnyM.slices_Sort_string_none Tryz.sort79 none 0 W
  go_wp2_with (go_at_call 79;refine hN.mono ?_;rintro e w' ⟨rfl,rfl⟩)
  go_ret
  exact⟨.slice none 0 0,[],rfl,hS,by simpa [iR]using hrow,by simp,hb⟩
 ·have hH:Holds encStr W gb 0 (ss.map λx=>x.data.toList).toArray:=holds_of_block hgb (by rw[<- Bc];simpa using r4);have hgl:gb<W.heap.size:=(cg.1 hgb).1;have hsz:(ss.map λx=>x.data.toList).length<4611686018427387904:=by have:=hSN ss hS;simp;omega
  have cS:=AnyM.slices_Sort_string Tryz.sort79 gb 0 cap (ss.map λx=>x.data.toList) W hH hgl hsz;rw[bw,BI]at cS
  go_wp2_with (go_at_call 79;refine cS.mono ?_;rintro e w' ⟨rfl,nn,os,rfl⟩)
  go_ret
  refine⟨_,ss,rfl,hS,?_,hnil,hb.grown (grownBy_sorted _) hb.size (λj hj=>by cases hj;exact hbase)⟩;have hp:=(lS (lt:=EH) ss).length_eq;have:=ownsRow_sorted (base:=w.heap.size) (ss:=ss.map λx=>x.data.toList) (ts:=(iR EH ss).map λx=>x.data.toList) (n:=nn) (os:=os) (by simp[hp]) hbase hgb (by simpa using r1) r2 r3;rw[Bc];simpa using this
theorem qJ:∀(l:List (Bool × ByteArray)) (t:Nat),t<l.length*2->(l.flatMap fA)[t]?=some (fA l[t / 2]!)[t % 2]!
 | [],t,h=>absurd h (by simp)
 |x::r,0,_=>rfl
 |x::r,1,_=>rfl
 |x::r,t+2,h=>by
  have ih:=qJ r t (by simp at h;omega);have e1:(t+2) / 2=t / 2+1:=by omega
  have e2:(t+2) % 2=t % 2:=by omega
  rw[e1,e2];simpa [fA]using ih
theorem qI:∀l:List (Bool × ByteArray),(l.flatMap fA).length=l.length*2
 | []=>rfl
 |x::r=>by
  have:=qI r;simp only[fg,By,IT,this];simp[fA];omega
theorem yI(d:Array (Bool × ByteArray)):(flatK fA 2 d).toList=d.toList.flatMap fA:=by
 apply jw;intro t;by_cases ht:t<d.size*2
 ·rw[qJ _ _ (by simpa using ht),fq];have:=get_flatK fA 2 d t ht;have hs:t<(flatK fA 2 d).size:=by simpa using ht
  rw[getElem!_pos (flatK fA 2 d) t hs]at this;have h2:t / 2<d.size:=by omega
  have e:d.toList[t / 2]! = d[t / 2]!:=by rw[getElem!_pos d (t / 2) h2,getElem!_pos d.toList (t / 2) (by simpa using h2)];simp
  rw[gq hs,this,e]
 ·have h1:(d.toList.flatMap fA).length<=t:=by
   rw[qI,jc];exact oz ht
  have h2:(flatK fA 2 d).toList.length<=t:=by
   rw[jc,size_flatK];exact oz ht
  rw[ir h1,ir h2]
theorem He{w:Γ}{g:Nat}{cur:Array ο}{e:TypeId}{Fa:Array ο}(hb:w.heap[g]?=some (.cells cur e (0,0)))(ht:cur.toList.take Fa.size=Fa.toList):Holds id w g 0 Fa:=by
 intro j hj;refine⟨?_,by simp[World.frozen?,hb]⟩;have h1:(cur.toList.take Fa.size)[j]?=Fa.toList[j]?:=by rw[ht]
 rw[fu hj]at h1;simp only[nl,hb,dc];simp only[ja,ai,b9];rw[<- fq,h1];simp[hj]
theorem Hf{w:Γ}{g n:Nat}{os:Array Obj}{cur:Array ο}{e:TypeId}(d:Array ο)(hb:w.heap[g]?=some (.cells cur e (0,0))) :
  (grow (putRow id (Sort.ahead w n) g 0 d) os).heap[g]?=some (.cells (putCells id 0 d cur) e (0,0)):=by
 have hg:g<w.heap.size:=(cg.1 hb).1;rw[heap_grow_old _ _ (by simpa using hg)];simp[putRow,mapBlock,Sort.ahead,Array.getElem?_modify,hb,onCells]
theorem Cd{w:Γ}{g n:Nat}{os:Array Obj}(d:Array ο):w.grownBy (grow (putRow id (Sort.ahead w n) g 0 d) os) (some g):=by
 refine⟨rfl,rfl,rfl,by simp,λk hk hne=>?_⟩;rw[heap_grow_old _ _ (by simpa using hk)];have:g≠k:=λe=>hne (by rw[e]);simp[putRow,mapBlock,Sort.ahead,Array.getElem?_modify,this]
theorem CP(cur:Array ο)(ts:Array ο)(h:ts.size<=cur.size):(putCells id 0 ts cur).toList.take ts.size=ts.toList:=by
 apply jw;intro j;by_cases hj:j<ts.size
 ·rw[fu hj,fq];simp[putCells,hj,show j<cur.size by omega]
 ·rw[List.getElem?_take_eq_none (by omega),ir (by simp;omega)]
theorem S2(w:Γ)(g:Nat)(lb:Array ο)(eg:∀args w,(callFunc g args).run κ w=.ok (.enter g args) w)
  (S:List (Bool × ByteArray)->Prop)(N:Nat)(hN:N<=maxLen)(hNb:N*24<=140737488355328)(hSN:∀ss,S ss->ss.length<=N)(hseq:SeqStopsK oT 2 κ g lb (λx=>#[rI x]) (OT w.heap.size) S (λ_=>True) N w) :
  Calls κ 116 #[.func (.func g) #[] lb,.func (.func 118) #[] #[]] w λe w'=>∃(v:ο) (ss:List (Bool × ByteArray)),e=.returned v/\S ss /\
   w'.ownsRow w.heap.size 51 2 v ss.length ((iR Ml ss).flatMap fA)/\(v=.slice none 0 0 ↔ ss=[])/\Below w.heap.size w w':=by
 have hC:=callsIn_wide.1 (RF oT 4 trivial trivial rfl (by omega) g lb trivial eg S N hN hNb w hseq);have eo:∀args w,(callFunc 118 args).run κ w=.ok (.enter 118 args) w:=enters_of Tryz.func118 (by kernel_rfl) rfl
 go_enter Tryz.func116,Tryz.ntmps116
 go_wp2_with (go_at_call 152;refine hC.mono ?_;rintro e W ⟨v,ss,rfl,hS,hrow,hnil,hb⟩)
 rcases hrow.2 with⟨rfl,hz⟩ | ⟨gb,cap,cur,rfl,hbase,hgb,r1,r2,r3,r4⟩
 ·have hss:ss=[]:=m9 hz;subst hss;have hN:=AnyF.slices_SortFunc_none Tryz.sort153 none 0 (.func (.func 118) #[] #[]) W
  go_wp2_with (go_at_call 153;refine hN.mono ?_;rintro e w' ⟨rfl,rfl⟩)
  go_ret
  exact⟨.slice none 0 0,[],rfl,hS,by simpa [iR]using hrow,by simp,hb⟩
 ·have hH:HoldsK fA 2 W gb 0 ss.toArray:=He hgb (by rw[yI];simpa using r4);have hgl:gb<W.heap.size:=(cg.1 hgb).1;have hsz:ss.toArray.size<4611686018427387904:=by have:=hSN ss hS;simp;omega
  have hcmp:CmpLays κ 118 #[] fA 2 DA gb 0 ss.toArray.size W:=λm os dk _ x y=>
   (Tj x y (sortWorldK fA 2 W gb 0 m dk os)).mono λe w' ⟨h1,os',h2⟩=>⟨h1,0,os',h2⟩
  have cS:=AnyQ.slices_SortFunc_total Tryz.sort153 2 Tryz.isAgg51 Tryz.sizeOf51 fA (λ_=>rfl) (λx v hv=>by simp[fA]at hv;rcases hv with rfl | rfl <;> rfl) DA (by rw[Dv];exact J1.swo)
   118 #[] gb 0 cap ss.toArray W eo hcmp hH hgl hsz (by rw[Dv];exact J1.total)
  rw[Dv,l7,List.toList_toArray,IC]at cS
  go_wp2_with (go_at_call 153;refine cS.mono ?_;rintro e w' ⟨rfl,nn,os,rfl⟩)
  go_ret
  have hp:=(lS (lt:=Ml) ss).length_eq;have hsF:(flatK fA 2 (iR Ml ss).toArray).size=ss.length*2:=by simp[hp]
  refine⟨_,ss,rfl,hS,⟨?_,.inr ⟨gb,cap,_,rfl,hbase,Hf _ hgb,r1,r2,?_,?_⟩⟩,hnil,hb.grown (Cd _) hb.size (λj hj=>by cases hj;exact hbase)⟩
  ·rw[<- yI (iR Ml ss).toArray];simpa using hsF
  ·simpa [putCells]using r3
  ·have hle:ss.length*2<=cap*2:=gk _ r1;have:=CP cur (flatK fA 2 (iR Ml ss).toArray) (by rw[hsF,r3];exact hle);rw[hsF,yI]at this;simpa using this
end Go.AxC
namespace Go.Ax
open Go Go.Proofs
section
def Cx.lB(c:Cx)(w:Γ)(gb:Nat)(o:O)(n z:Nat):Cx:=
 { c with w:=w,Z:=c.Z++[o],blk:=λb=>if b=c.Z.length then gb else c.blk b,tot:=λb=>if b=c.Z.length then n else c.tot b,yP:=λb=>if b=c.Z.length then z else c.yP b }
section
variable {E:Env}{c:Cx}
theorem Bl(h:SR E c){w:Γ}{gb n z:Nat}{o:O}(hb:Go.RowKit.Below c.w.heap.size c.w w)(hg:c.w.heap.size<=gb):Ext c (c.lB w gb o n z) where
 size:=hb.size
 keep:=λk hk ho=>by
  refine⟨hb.block k hk,λ⟨b,hl,hbk⟩=>?_⟩;rcases iG hl with hl | ⟨rfl,_⟩
  ·refine ho ⟨b,hl,?_⟩;have:=eC hl;simpa [Cx.lB,aw this]using hbk
  ·simp[Cx.lB]at hbk;omega
 len:=by simp[Cx.lB]
 blk:=λb hb=>by simp[Cx.lB,aw hb]
 tot:=λb hb=>by simp[Cx.lB,aw hb]
 yP:=λb hb=>by simp[Cx.lB,aw hb]
 nT:=rfl
 os:=hb.os
 tape:=hb.tape
 output:=hb.output
theorem Sk(h:SR E c){w:Γ}{gb n z:Nat}{o:O}(hb:Go.RowKit.Below c.w.heap.size c.w w)(hg:c.w.heap.size<=gb)(ho:uN E (c.lB w gb o n z) c.Z.length o):SR E (c.lB w gb o n z) where
 inj:=λb b' hl hl' e=>by
  rcases iG hl with hl | ⟨rfl,_⟩ <;> rcases iG hl' with hl' | ⟨rfl,_⟩
  ·have:=eC hl;have:=eC hl';refine h.inj b b' hl hl' ?_;simpa [Cx.lB,aw (eC hl),aw (eC hl')]using e
  ·have:=h.lt hl;simp[Cx.lB,aw (eC hl)]at e;omega
  ·have:=h.lt hl';simp[Cx.lB,aw (eC hl')]at e;omega
  ·rfl
 obj:=λb o' hbo=>by
  by_cases hlt:b<c.Z.length
  ·have hb':c.Z[b]?=some o':=by simpa [Cx.lB,List.getElem?_append_left hlt]using hbo
   by_cases hl:live c.Z b
   ·refine(h.obj b o' hb').mono (Bl h hb hg) hlt ?_;exact hb.block _ (h.lt hl)
   ·cases o' with
    |dead=>exact True.intro
    |_=>exact(hl ⟨_,hb',rfl⟩).elim
  ·have:b=c.Z.length:=by
    have:=(AI.1 hbo).1;simp[Cx.lB]at this;omega
   subst this;simp[Cx.lB]at hbo;subst hbo;exact ho
 nT:=λb hl=>by
  rcases iG hl with hl | ⟨rfl,_⟩
  ·have:=h.nT b hl;simpa [Cx.lB,aw (eC hl)]using this
  ·intro ha;have:=h.jF _ ha;simp[Cx.lB]at this;omega
 jF:=λk hk=>by
  have:=h.jF k hk;have:=hb.size;show k<w.heap.size;omega
 gl:=qG (Bl h hb hg) h.gl
theorem Gf(h:SR E c){w:Γ}(hb:Go.RowKit.Below c.w.heap.size c.w w){t sz len:Nat}{i:Ty}(hi:E.ty t=some i)(hsz:i.size=sz){v:ο}{xs:List ο}{cs:List V}(hrow:w.ownsRow c.w.heap.size t sz v len xs)(hv:v≠.slice none 0 0)
  (hl:cs.length=xs.length)(hok:cs.all V.aZ=true)(hr:∀(c':Cx)(j:Nat)(a:V),cs[j]?=some a->∃x,xs[j]?=some x/\VR c' a x):jO E c (.sl c.Z.length 0 len none) (c.Z++[.cells t cs false]) v w:=by
 rcases hrow.2 with⟨e,_⟩ | ⟨gb,cap,cur,rfl,hbase,hgb,r1,r2,r3,r4⟩
 ·exact absurd e hv
 have hlen:=hrow.1;have hcl:cs.length<=cur.size:=by rw[hl,hlen,r3];exact gk _ r1
 have hne:∀{α:Type} (x y:α),(if c.Z.length=c.Z.length then x else y)=x:=λx y=>az rfl;refine⟨c.lB w gb (.cells t cs false) cur.size sz,rfl,rfl,Bl h hb hbase,Sk h hb hbase ⟨cur,?_,?_,⟨i,hi,?_⟩,hcl,(λe=>by cases e),hok,λj a hj=>?_⟩,?_⟩
 ·show w.heap[if c.Z.length=c.Z.length then gb else _]?=_;rw[hne];exact hgb
 ·show cur.size=if c.Z.length=c.Z.length then _ else _;rw[hne]
 ·show (if c.Z.length=c.Z.length then sz else _)=_;rw[hne,hsz]
 ·obtain⟨x,h1,h2⟩:=hr (c.lB w gb (.cells t cs false) cur.size sz) j a hj;refine⟨x,?_,h2⟩;have hjl:j<len*sz:=by rw[<- hlen];exact(AI.1 h1).1
  rw[<- r4,fu hjl,fq]at h1;exact h1
 ·have:=VR.sl (c:=c.lB w gb (.cells t cs false) cur.size sz) c.Z.length 0 len none cap (by simp[Cx.lB]) r1 (λk e=>by cases e) (λ_=>by
   show 0+cap*(if c.Z.length=c.Z.length then sz else _)=if c.Z.length=c.Z.length then cur.size else _;rw[hne,hne,r3,dc])
  have e:(c.lB w gb (.cells t cs false) cur.size sz).blk c.Z.length=gb:=az rfl;rw[e]at this;exact this
theorem Gg(h:SR E c){w:Γ}(hb:Go.RowKit.Below c.w.heap.size c.w w):jO E c .aG c.Z (.slice none 0 0) w:=by
 obtain⟨k1,k2⟩:=wP h (w:=w) hb.size (λk hk=>hb.block k hk) hb.os hb.tape hb.output;exact⟨c.outer w,rfl,rfl,k1,k2,.inl .aG⟩
end
end
end Go.Ax
namespace Go.AxC
open Go Go.Proofs Go.Ax Go.RowKit Go.Maps Go.Sort Go.Shelf
set_option maxRecDepth 100000 in
theorem HJ(F:Fence)(n:Nat)(hF:F.fn 260)(hro:F.round=none)(hn:1<=n)(Bm:Nat)(p:Option Addr)(cap:Nat)(xs:List ByteArray)(w:Γ)(hBm:Bm<w.heap.size)(hx:xs.length<=1000000)
  (hm:w.cell? ⟨Bm,0,none⟩=some (.slice p xs.length cap))(hp:∀j x,xs[j]?=some x->∃blk off,p=some ⟨blk,off,none⟩/\w.cell? ⟨blk,off+j,none⟩=some (.string x)) :
  SeqStopsK F n κ 260 #[.pointer (some ⟨Bm,0,none⟩)] (λx=>#[encS x]) (OT w.heap.size) (λss=>ss=xs) (λ_=>True) xs.length w:=by
 intro l J Jx W hW hJ hJx hY h0;replace hm:W.cell? ⟨Bm,0,none⟩=some (.slice p xs.length cap):=(hW.cell (p:=⟨Bm,0,none⟩) hBm).trans hm;refine callsIn_of_wp Tryz.func260 rfl hF ?_ hro;simp only[Tryz.ntmps260,l7,IT,aq,μ,se,kq,kz,mh,l9,cz,ey]
 gi_wp2
 gi_loopw [7] (λv7 wr=>∃i:Nat,v7=.int .i64 (i:Int)/\i<=xs.length/\J (xs.take i) wr/\Below w.heap.size w wr)
  (λv7 wr=>match v7 with | .int _ k=>xs.length-k.toNat | _=>0)
 case atStart=>
  exact⟨0,rfl,gv _,h0,hW⟩
 case round=>
  obtain⟨i,rfl,hi,hJi,hb⟩:=hrel;by_cases hlt:i<xs.length
  ·have hii:((i:Int)<(xs.length:Int)):=by omega
   have hxi:xs[i]?=some xs[i]:=AT hlt;obtain⟨blk,off,rfl,hc⟩:=hp i _ hxi
   have hc':wr.cell? ⟨blk,off+i,none⟩=some (.string xs[i]):=(hb.cell (p:=⟨blk,off+i,none⟩) (by
    unfold nl at hc;cases ho:w.heap[blk]? with
    |none=>simp[ho]at hc
    |some o=>exact(cg.1 ho).1)).trans hc
   obtain⟨fn,tmps,assign,body,hy,hR⟩:=hY (xs.take i) xs[i] wr hJi (by simp;omega);simp only[encS]at hy;have htk:xs.take i++[xs[i]]=xs.take (i+1):=by simp
   have h63:IntKind.i64.wrap ((i:Int)+1)=(i:Int)+1:=by
    have:i+1<=1000000:=by omega
    simp only[IntKind.wrap,IntKind.bits,IntKind.signed];simp;omega
   gi_wp2
   refine hR.mono ?_;rintro e W3 (⟨rfl,hJ4,hk3⟩ | ⟨rfl,hJx3⟩)
   ·rw[htk]at hJ4
    gi_wp2
    go_roundw
    case rel=>exact⟨i+1,by rw[Int.natCast_add];rfl,by omega,hJ4,hb.trans hk3.2⟩
    case measure=>
     show xs.length-((i:Int)+1).toNat<xs.length-(i:Int).toNat;omega
   ·gi_wp2
    refine bodyPost_ret (results_none rfl _ _ _) rfl ?_;exact⟨⟨_,rfl⟩,.inr ⟨_,trivial,hJx3⟩⟩
  ·have hie:i=xs.length:=by omega
   subst hie
   gi_wp2
   go_end0
   exact⟨⟨_,rfl⟩,.inl ⟨xs,rfl,by simpa using hJi⟩⟩
end Go.AxC
namespace Go.AxC
open Go Go.Proofs Go.Ax Go.RowKit Go.Sort
section
section
variable {E:Env}{c:Cx}
theorem vW(hs:SR E c){b t:Nat}{X:V}{ex:Bool}(hb:c.Z[b]?=some (.cells t [X] ex)):∃x,c.w.cell? ⟨c.blk b,0,none⟩=some x/\VR c X x/\c.blk b<c.w.heap.size:=by
 obtain⟨arr,h1,_,_,_,_,_,h2⟩:=hs.obj b _ hb;obtain⟨x,h3,h4⟩:=h2 0 X rfl;exact⟨x,by simp[nl,h1,h3],h4,(cg.1 h1).1⟩
theorem Qx(hs:SR E c){X:V}{es:List (V × V)}(hX:(∃m,X=.mp m/\c.Z[m]?=some (.map es))\/∃g,X=.imp g es){x:ο}(hv:VR c X x) :
  ∃blk en cl l,x=.map (some blk)/\c.w.heap[blk]?=some (.map en cl)/\Ye en cl/\l.Perm en.toList/\jE c es l:=by
 rcases hX with⟨m,rfl,hm⟩ | ⟨g,rfl⟩
 ·obtain⟨en,cl,h1,h2,l,h3,h4⟩:=hs.obj m _ hm;cases hv with
  |mp _ h=>exact⟨_,en,cl,l,rfl,h1,h2,h3,h4⟩
  |inl h=>cases h
 ·obtain⟨m,en,cl,l,hx,_,h1,h2,h3,h4⟩:=hv.tN;exact⟨m,en,cl,l,hx,h1,h2,h3,h4.Qy⟩
theorem rowS{I:Bool->Nat->Prop}{w:Γ}{k:V}{x:ο}(h:sM w I k x)(hr:lC (rowOf k)=true):∃y,x=encS y/\rowOf k=pH y:=by
 cases h with
 |one h=>cases h with
  |str s=>exact⟨s,rfl,rfl⟩
  |_=>simp[rowOf,V.cells,lC]at hr
 |agg cs xs h=>
  match cs,hr with
  | [],hr=>simp[rowOf,V.cells,lC]at hr
  | [_],hr=>simp[rowOf,lC]at hr
  |_::_::_,hr=>simp[rowOf,V.cells,lC]at hr
theorem uX{I:Bool->Nat->Prop}{w:Γ}{k:V}{x:ο}(h:sM w I k x)(hr:kK (rowOf k)=true):∃y,x=rI y/\rowOf k=Bn y:=by
 cases h with
 |one h=>cases h <;> simp[rowOf,V.cells,kK]at hr
 |agg cs xs h=>
  match cs,hr with
  | [],hr=>simp[rowOf,V.cells,kK]at hr
  | [_],hr=>simp[rowOf,kK]at hr
  | [a,b],hr=>
   cases h with
   |cons _ y _ ys h1 h2=>cases h2 with
    |cons _ z _ zs h3 h4=>
     cases h4;cases h1 <;> first | (cases h3 <;> first | exact⟨(_,_),rfl,rfl⟩ | (simp[rowOf,V.cells,kK]at hr;done)) | (simp[rowOf,V.cells,kK]at hr;done)
  |_::_::_::_,hr=>simp[rowOf,V.cells,kK]at hr
theorem Mx{α:Type}{enc:α->ο}{abs:α->List V}{p:List V->Bool}(hrow:∀{k:V}{x:ο},sM c.w c.bE k x->p (rowOf k)=true->∃y,x=enc y/\rowOf k=abs y)
  {es:List (V × V)}{l:List ad}(hm:jE c es l):allRows p (es.map λe=>rowOf e.1)=true->∃ys:List α,l.map (·.key)=ys.map enc/\(es.map λe=>rowOf e.1)=ys.map abs:=by
 induction hm with
 |nil=>exact λ_=>⟨[],rfl,rfl⟩
 |cons k v es e l hk hv hr ih=>
  intro h;simp only[bj,allRows]at h;split at h
  case h_2=>cases h
  rename_i h1;obtain⟨y,e1,e2⟩:=hrow hk h1;obtain⟨ys,e3,e4⟩:=ih h;exact⟨y::ys,by simp[e1,e3],by simp[e2,e4]⟩
theorem Rz:∀zs:List ByteArray,(zs.map pH).flatten.length=(zs.flatMap qL).length/\(zs.map pH).flatten.all V.aZ=true/\∀(c':Cx)(j:Nat)(a:V),(zs.map pH).flatten[j]?=some a->∃x,(zs.flatMap qL)[j]?=some x/\VR c' a x
 | []=>⟨rfl,rfl,λ_ j a h=>by simp at h⟩
 |z::zs=>by
  obtain⟨h1,h2,h3⟩:=Rz zs;refine⟨by simp[pH,qL]at h1 ⊢;exact h1,by simp only[bj,dn,lg,h2];rfl,λc' j a h=>?_⟩
  match j,h with
  |0,h=>
   injection (show some (ab (fY z))=some a from h) with h;subst h;exact⟨.string z,rfl,.inl (.str z)⟩
  |j+1,h=>exact h3 c' j a h
theorem Vq:∀zs:List (Bool × ByteArray),(zs.map Bn).flatten.length=(zs.flatMap fA).length/\(zs.map Bn).flatten.all V.aZ=true/\∀(c':Cx)(j:Nat)(a:V),(zs.map Bn).flatten[j]?=some a->∃x,(zs.flatMap fA)[j]?=some x/\VR c' a x
 | []=>⟨rfl,rfl,λ_ j a h=>by simp at h⟩
 |z::zs=>by
  obtain⟨h1,h2,h3⟩:=Vq zs;refine⟨by simp only[bj,dn,fg,By,h1];rfl,by simp only[bj,dn,lg,h2];rfl,λc' j a h=>?_⟩
  match j,h with
  |0,h=>
   injection (show some (V.bool z.1)=some a from h) with h;subst h;exact⟨.bool z.1,rfl,.inl (.bool _)⟩
  |1,h=>
   injection (show some (ab (fY z.2))=some a from h) with h;subst h;exact⟨.string z.2,rfl,.inl (.str z.2)⟩
  |j+2,h=>exact h3 c' j a h
end
theorem Dd{α:Type}{enc:α->ο}(dec:ο->α)(hd:∀x,dec (enc x)=x){a b:List α}(h:(a.map enc).Perm (b.map enc)):a.Perm b:=by
 have:=h.map dec;simpa [List.map_map,Function.comp_def,hd]using this
def adf:ο->ByteArray
 | .string s=>s
 |_=>default
def decL:ο->Bool × ByteArray
 | .agg #[.bool b,.string s]=>(b,s)
 |_=>default
theorem zD{α:Type}{F:Fence}{n:Nat}{P:ar}{g:Nat}{lb:Array ο}{encs:α->Array ο}{Kp:Γ->Γ->Prop}{S S' Sp:List α->Prop}{N:Nat}{w:Γ}(h:SeqStopsK F n P g lb encs Kp S Sp N w)(hS:∀xs,S xs->S' xs):SeqStopsK F n P g lb encs Kp S' Sp N w:=
 λl J Jx W hW hJ hJx hY h0=>(h l J Jx W hW hJ hJx hY h0).mono λe W' ⟨h1,h2⟩=>⟨h1,h2.imp (λ⟨xs,a,b⟩=>⟨xs,hS xs a,b⟩) id⟩
section
variable {E:Env}{c:Cx}
theorem ac0(hs:SR E c){i:Ty}(hi:E.ty 9=some i)(h1:i.size=1)(g:Nat)(lb:Array ο)(eg:∀args w,(callFunc g args).run κ w=.ok (.enter g args) w)(ys:List ByteArray)(hlen:ys.length<=1000000)
  (hseq:SeqStopsK oT 2 κ g lb (λx=>#[encS x]) (OT c.w.heap.size) (λss=>ss.Perm ys) (λ_=>True) ys.length c.w) :
  sK κ 94 [.func (.func g) #[] lb] c.w λx w'=>(ys=[]->jO E c .aG c.Z x w')/\(ys≠[]->jO E c (.sl c.Z.length 0 ys.length none) (c.Z++[.cells 9 (lA strLt (ys.map pH)).flatten false]) x w'):=by
 refine .inl ⟨Tryz.call94 _ _,(S1 c.w g lb eg _ ys.length (by simp only[maxLen];omega) (by omega) (λss h=>Nat.le_of_eq h.length_eq) hseq).mono ?_⟩;rintro e w' ⟨v,ss,rfl,hp,hrow,hnil,hb⟩;have hl:=hp.length_eq;refine⟨v,rfl,λh0=>?_,λh0=>?_⟩
 ·subst h0;rw[hnil.2 (List.perm_nil.1 hp)];exact Gg hs hb
 ·have hss:ss≠[]:=λe=>h0 (List.perm_nil.1 (by rw[e]at hp;exact hp.symm));have hv:v≠.slice none 0 0:=λe=>hss (hnil.1 e);rw[HW Pn hp,hl]at hrow;obtain⟨k1,k2,k3⟩:=Rz (iR EH ys);rw[AG pH];exact Gf hs hb hi h1 hrow hv k1 k2 k3
theorem finL(hs:SR E c){i:Ty}(hi:E.ty 51=some i)(h1:i.size=2)(g:Nat)(lb:Array ο)(eg:∀args w,(callFunc g args).run κ w=.ok (.enter g args) w)(ys:List (Bool × ByteArray))(hlen:ys.length<=1000000)
  (hseq:SeqStopsK oT 2 κ g lb (λx=>#[rI x]) (OT c.w.heap.size) (λss=>ss.Perm ys) (λ_=>True) ys.length c.w) :
  sK κ 116 [.func (.func g) #[] lb,.func (.func 118) #[] #[]] c.w λx w'=>(ys=[]->jO E c .aG c.Z x w')/\(ys≠[]->jO E c (.sl c.Z.length 0 ys.length none) (c.Z++[.cells 51 (lA qE (ys.map Bn)).flatten false]) x w'):=by
 refine .inl ⟨Tryz.call116 _ _,(S2 c.w g lb eg _ ys.length (by simp only[maxLen];omega) (by omega) (λss h=>Nat.le_of_eq h.length_eq) hseq).mono ?_⟩;rintro e w' ⟨v,ss,rfl,hp,hrow,hnil,hb⟩;have hl:=hp.length_eq;refine⟨v,rfl,λh0=>?_,λh0=>?_⟩
 ·subst h0;rw[hnil.2 (List.perm_nil.1 hp)];exact Gg hs hb
 ·have hss:ss≠[]:=λe=>h0 (List.perm_nil.1 (by rw[e]at hp;exact hp.symm));have hv:v≠.slice none 0 0:=λe=>hss (hnil.1 e);rw[HW J1 hp,hl]at hrow;obtain⟨k1,k2,k3⟩:=Vq (iR Ml ys);rw[AG Bn];exact Gf hs hb hi h1 hrow hv k1 k2 k3
theorem BN{t:Nat}{fk fv:List Nat}{ok:List V->Bool}{lt:List V->List V->Bool}{x:V}{Z σ':Sg}{v:V}(h:n_ t fk fv ok lt x Z=some (v,σ')) :
  ∃rows,keysOf Z fk fv x=some rows/\allRows ok rows=true/\gd rows.length 1000000=true/\((rows=[]/\v=.aG/\σ'=Z)\/(rows≠[]/\v=.sl Z.length 0 rows.length none/\σ'=Z++[.cells t (lA lt rows).flatten false])):=by
 unfold n_ at h;split at h
 ·rename_i hk;injection h with h;injection h with h1 h2;exact⟨[],hk,rfl,rfl,.inl ⟨rfl,h1.symm,h2.symm⟩⟩
 ·rename_i l hne hk;split at h
  case h_2=>cases h
  rename_i h3 h4;injection h with h;injection h with h1 h2;exact⟨l,hk,h3,h4,.inr ⟨λe=>hne e,h1.symm,h2.symm⟩⟩
 ·cases h
theorem kW{n:Nat}:∀{l:List Nat},Iy n l=true->n∈l
 | [],h=>by cases h
 |a::r,h=>by
  simp only[Iy]at h;split at h
  ·rename_i e;have e:=jb e;subst e;exact No ..
  ·exact ae _ (kW h)
theorem Rv{f b:Nat}{x:ο}(hv:VR c (.fn f [] [.ref b 0]) x):x=.func (.func f) #[] #[.pointer (some ⟨c.blk b,0,none⟩)]:=by
 cases hv with
 |inl h=>cases h
 |fn _ _ _ xs ys ha hb=>
  cases ha;cases hb with
  |cons _ y _ zs h1 h2=>
   cases h2;obtain⟨e,_⟩:=h1.iV;rw[e]
theorem xM{I:Bool->Nat->Prop}{w:Γ}:∀{xs:List (List V)}{blk off:Nat},eK w I 1 xs blk off->allRows lC xs=true->∃ys:List ByteArray,xs=ys.map pH/\∀j y,ys[j]?=some y->w.cell? ⟨blk,off+j,none⟩=some (.string y)
 | [],_,_,_,_=>⟨[],rfl,λj y h=>by simp at h⟩
 |r::xs,blk,off,h,hok=>by
  cases h with
  |cons _ _ hl hc hr=>
   simp only[allRows]at hok;split at hok
   case h_2=>cases hok
   rename_i h1;obtain⟨ys,e,hy⟩:=xM hr hok;cases hc with
   |nil=>cases hl
   |cons v x cs h2 h3 h4=>
    cases h4 with
    |cons=>simp at hl
    |nil=>
     cases h3 <;> first | (simp[lC]at h1;done) | skip
     rename_i s;refine⟨s::ys,by rw[e];rfl,λj y hj=>?_⟩
     match j,hj with
     |0,hj=>cases hj;exact h2
     |j+1,hj=>
      have:=hy j y hj
      rwa [qm,lu 1 j]at this
theorem pU{I:Bool->Nat->Prop}{w:Γ}{sz:Nat}{xs:List (List V)}{blk off:Nat}(h:eK w I sz xs blk off)(hok:allRows lC xs=true):xs=[]\/sz=1:=by
 cases h with
 |nil=>exact .inl rfl
 |cons r xs hl hc hr=>
  right
  simp only[allRows]at hok;split at hok
  case h_2=>cases hok
  rename_i h1
  match r,h1,hl with
  | [],h1,_=>cases h1
  | [_],_,hl=>exact hl.symm
  |_::_::_,h1,_=>simp[lC]at h1
theorem rJ{cs:List V}{arr:Array ο}(hc:∀(j:Nat)(v:V),cs[j]?=some v->∃x,arr[j]?=some x/\VR c v x):∀(l:List V)(off:Nat),(∀j v,l[j]?=some v->cs[off+j]?=some v)->allRows lC (l.map λv=>[v])=true->∃ys:List ByteArray,(l.map λv=>[v])=ys.map pH/\∀j y,ys[j]?=some y->arr[off+j]?=some (.string y)
 | [],_,_,_=>⟨[],rfl,λj y h=>by simp at h⟩
 |v::l,off,hl,hok=>by
  simp only[bj,allRows]at hok;split at hok
  case h_2=>cases hok
  rename_i h1;obtain⟨ys,e,hy⟩:=rJ hc l (off+1) (λj w hj=>by have:=hl (j+1) w hj;rwa [<- qm,Nat.add_right_comm]at this) hok;obtain⟨x,h2,h3⟩:=hc off v (hl 0 v rfl)
  have hx:∃s,x=.string s/\v=.str (fY s):=by
   cases v <;> first | (simp[lC]at h1;done) | skip
   obtain⟨s,h4,h5⟩:=h3.eX;exact⟨s,h4,by rw[h5]⟩
  obtain⟨s,rfl,rfl⟩:=hx;refine⟨s::ys,by rw[bj,e];rfl,λj y hj=>?_⟩
  match j,hj with
  |0,hj=>cases hj;exact h2
  |j+1,hj=>
   have:=hy j y hj
   rwa [qm,lu 1 j]at this
theorem LZ(hs:SR E c){i:Ty}(hi:E.ty 9=some i)(h1:i.size=1){f b t:Nat}{X:V}{ex:Bool}{es:List (V × V)}(hf:f∈[131,327])(hb:c.Z[b]?=some (.cells t [X] ex))
  (hX:(∃m,X=.mp m/\c.Z[m]?=some (.map es))\/∃g,X=.imp g es)(hok:allRows lC (es.map λe=>rowOf e.1)=true)(hlen:gd (es.map λe=>rowOf e.1).length 1000000=true) :
  ∃ys:List ByteArray,(es.map λe=>rowOf e.1)=ys.map pH/\sK κ 94 [.func (.func f) #[] #[.pointer (some ⟨c.blk b,0,none⟩)]] c.w λx w'=>(ys=[]->jO E c .aG c.Z x w')/\(ys≠[]->jO E c (.sl c.Z.length 0 ys.length none) (c.Z++[.cells 9 (lA strLt (ys.map pH)).flatten false]) x w'):=by
 obtain⟨x,hx,hvx,hblt⟩:=vW hs hb;obtain⟨blk,en,cl,l,rfl,h2,h3,h4,h5⟩:=Qx hs hX hvx;obtain⟨ys,e1,e2⟩:=Mx (enc:=encS) (abs:=pH) (λh hr=>rowS h hr) h5 hok;have hl:ys.length<=1000000:=by rw[e2,bw]at hlen;exact jl hlen
 have hken:(en.toList.map (·.key)).Perm (ys.map encS):=by rw[<- e1];exact(h4.map _).symm
 have hks:∀x∈en.toList.map (·.key),∃y,x=encS y:=λx hx=>by
  have:=hken.mem_iff.1 hx;obtain⟨y,_,rfl⟩:=cv.1 this;exact⟨y,rfl⟩
 have hsz:en.size=ys.length:=by have:=hken.length_eq;simpa using this
 refine⟨ys,e2,ac0 hs hi h1 f _ ?_ ys hl ?_⟩
 ·simp only[IN,bz,ek]at hf;rcases hf with rfl | rfl
  ·exact enters_of Tryz.func131 (by kernel_rfl) rfl
  ·exact enters_of Tryz.func327 (by kernel_rfl) rfl
 ·rw[<- hsz];simp only[IN,bz,ek]at hf;rcases hf with rfl | rfl
  ·exact zD (KH _ (IM oT 2 trivial rfl (by omega) (c.blk b) blk en cl c.w hblt hx h2 h3.st hks)) λxs hp=>Dd adf (λ_=>rfl) (hp.trans hken)
  ·exact zD (KH _ (IL oT 2 trivial rfl (by omega) (c.blk b) blk en cl c.w hblt hx h2 h3.st hks)) λxs hp=>Dd adf (λ_=>rfl) (hp.trans hken)
theorem L0(hs:SR E c){i:Ty}(hi:E.ty 51=some i)(h1:i.size=2){f b t:Nat}{X:V}{ex:Bool}{es:List (V × V)}(hf:f∈[154])(hb:c.Z[b]?=some (.cells t [X] ex))
  (hX:(∃m,X=.mp m/\c.Z[m]?=some (.map es))\/∃g,X=.imp g es)(hok:allRows kK (es.map λe=>rowOf e.1)=true)(hlen:gd (es.map λe=>rowOf e.1).length 1000000=true) :
  ∃ys:List (Bool × ByteArray),(es.map λe=>rowOf e.1)=ys.map Bn/\sK κ 116 [.func (.func f) #[] #[.pointer (some ⟨c.blk b,0,none⟩)],.func (.func 118) #[] #[]] c.w λx w'=>(ys=[]->jO E c .aG c.Z x w')/\(ys≠[]->jO E c (.sl c.Z.length 0 ys.length none) (c.Z++[.cells 51 (lA qE (ys.map Bn)).flatten false]) x w'):=by
 obtain⟨x,hx,hvx,hblt⟩:=vW hs hb;obtain⟨blk,en,cl,l,rfl,h2,h3,h4,h5⟩:=Qx hs hX hvx;obtain⟨ys,e1,e2⟩:=Mx (enc:=rI) (abs:=Bn) (λh hr=>uX h hr) h5 hok;have hl:ys.length<=1000000:=by rw[e2,bw]at hlen;exact jl hlen
 have hken:(en.toList.map (·.key)).Perm (ys.map rI):=by rw[<- e1];exact(h4.map _).symm
 have hks:∀x∈en.toList.map (·.key),∃y,x=rI y:=λx hx=>by
  have:=hken.mem_iff.1 hx;obtain⟨y,_,rfl⟩:=cv.1 this;exact⟨y,rfl⟩
 have hsz:en.size=ys.length:=by have:=hken.length_eq;simpa using this
 refine⟨ys,e2,finL hs hi h1 f _ ?_ ys hl ?_⟩
 ·simp only[IN,bz,ek]at hf;subst hf;exact enters_of Tryz.func154 (by kernel_rfl) rfl
 ·rw[<- hsz];simp only[IN,bz,ek]at hf;subst hf;exact zD (KH _ (IP oT 2 trivial rfl (by omega) (c.blk b) blk en cl c.w hblt hx h2 h3.st hks)) λxs hp=>Dd decL (λ_=>rfl) (hp.trans hken)
theorem Cn(hs:SR E c){i:Ty}(hi:E.ty 9=some i)(h1:i.size=1){f b t:Nat}{X:V}{ex:Bool}(hf:f∈[260])(hb:c.Z[b]?=some (.cells t [X] ex))(ys:List ByteArray)(hl:ys.length<=1000000)
  (hX:∀x,c.w.cell? ⟨c.blk b,0,none⟩=some x->VR c X x->∃p cap,x=.slice p ys.length cap/\∀j y,ys[j]?=some y->∃blk off,p=some ⟨blk,off,none⟩/\c.w.cell? ⟨blk,off+j,none⟩=some (.string y)) :
  sK κ 94 [.func (.func f) #[] #[.pointer (some ⟨c.blk b,0,none⟩)]] c.w λx w'=>(ys=[]->jO E c .aG c.Z x w')/\(ys≠[]->jO E c (.sl c.Z.length 0 ys.length none) (c.Z++[.cells 9 (lA strLt (ys.map pH)).flatten false]) x w'):=by
 obtain⟨x,hx,hvx,hblt⟩:=vW hs hb;obtain⟨p,cap,rfl,hp⟩:=hX x hx hvx;simp only[IN,bz,ek]at hf;subst hf;exact ac0 hs hi h1 _ _ (enters_of Tryz.func260 (by kernel_rfl) rfl) ys hl (zD (HJ oT 2 trivial rfl (by omega) (c.blk b) p cap ys c.w hblt hl hx hp) λxs e=>by rw[e])
theorem EJ{i:Ty}(hi:E.ty 9=some i)(h1:i.size=1):iI κ E 94 (tO 9 [131,327] [260]):=by
 intro c vs xs v σ' hs hv h;unfold tO at h;split at h
 case h_2=>cases h
 rename_i x;cases hv with
 |cons _ y _ zs hv1 hv2=>
 cases hv2;obtain⟨rows,hk,hok,hlen,hres⟩:=BN h
 have fin:∀(ys:List ByteArray),rows=ys.map pH->sK κ 94 [y] c.w (λx w'=>(ys=[]->jO E c .aG c.Z x w')/\(ys≠[]->jO E c (.sl c.Z.length 0 ys.length none) (c.Z++[.cells 9 (lA strLt (ys.map pH)).flatten false]) x w'))->sK κ 94 [y] c.w (jO E c v σ'):=by
  intro ys e hr;refine hr.mono λx w' ⟨k1,k2⟩=>?_;rcases hres with⟨r0,rfl,rfl⟩ | ⟨r0,rfl,rfl⟩
  ·exact k1 (by rw[e]at r0;simpa using r0)
  ·have:=k2 (λe0=>r0 (by rw[e,e0];rfl));rw[e,bw];exact this
 unfold keysOf at hk;split at hk
 case h_2=>cases hk
 rename_i f b;have hy:=Rv hv1;subst hy;split at hk
 ·rename_i hb hf;split at hk
  case h_2=>cases hk
  rename_i es hm;have hk:=dh hk;subst hk;obtain⟨ys,e,hr⟩:=LZ hs hi h1 (kW hf) hb (.inl ⟨_,rfl,hm⟩) hok hlen;exact fin ys e hr
 ·rename_i hb hf;have hk:=dh hk;subst hk;obtain⟨ys,e,hr⟩:=LZ hs hi h1 (kW hf) hb (.inr ⟨_,rfl⟩) hok hlen;exact fin ys e hr
 ·rename_i hb hf;have hk:=dh hk;subst hk;refine fin [] rfl (Cn hs hi h1 (kW hf) hb [] (gv _) λx _ hx=>?_);have:x=.slice none 0 0:=by cases hx with | inl h=>cases h;rfl
  exact⟨none,0,this,λj y h=>by simp at h⟩
 ·rename_i t g xs full ex hb hf;have hk:=dh hk;subst hk;obtain⟨x0,hx0,hv0,_⟩:=vW hs hb;obtain⟨blk,off,sp,cap,sz,rfl,hsp,_,_,hr⟩:=hv0.nZ;rcases hsp with⟨rfl,-⟩ | ⟨rfl,rfl⟩
  case inr=>
   refine fin [] rfl (Cn hs hi h1 (kW hf) hb [] (gv _) λx hx _=>?_);rw[hx0]at hx;have hx:=dh hx;subst hx;exact⟨_,0,rfl,λj y hj=>by simp at hj⟩
  obtain⟨ys,e,hy⟩:∃ys:List ByteArray,xs=ys.map pH/\∀j y,ys[j]?=some y->c.w.cell? ⟨blk,off+j,none⟩=some (.string y):=by
   rcases pU hr hok with rfl | rfl
   ·exact⟨[],rfl,λj y h=>by simp at h⟩
   ·exact xM hr hok
  have hl:xs.length=ys.length:=by rw[e,bw]
  refine fin ys e (Cn hs hi h1 (kW hf) hb ys (by rw[<- hl];exact jl hlen) λx hx _=>?_);rw[hx0]at hx;have hx:=dh hx;subst hx;exact⟨_,cap,by rw[hl],λj y hj=>⟨blk,off,rfl,hy j y hj⟩⟩
 ·rename_i t m off len cap ex hb hf;split at hk
  case h_2=>cases hk
  rename_i t' cs ex' hm;split at hk
  case h_2=>cases hk
  rename_i hle;have hk:=dh hk;subst hk;have hle:=jl hle;obtain⟨x0,hx0,hv0,_⟩:=vW hs hb;obtain⟨arr,k1,k2,k3,k4,k5,k6,k7⟩:=hs.obj m _ hm
  obtain⟨ys,e,hy⟩:=rJ k7 ((cs.drop off).take len) off (λj w hj=>by
   have hjl:j<len:=ig (AI.1 hj).1 (by rw[bl];exact Nat.min_le_left _ _);rw[fu hjl,jf]at hj;exact hj) hok
  have hl:ys.length=len:=by
   have:=b8 List.length e;simp only[bw,bl,nj]at this;omega
  cases hv0 with
  |inl h=>cases h
  |sl _ _ _ _ cap' h2 h3 h4 h5=>
   refine fin ys e (Cn hs hi h1 (kW hf) hb ys (by
    have:=jl hlen;rw[e,bw]at this;exact this) λx hx _=>?_)
   rw[hx0]at hx;have hx:=dh hx;subst hx
   exact⟨_,cap',by rw[hl],λj y hj=>⟨c.blk m,off,rfl,by
    have:=hy j y hj;simp[nl,k1,this]⟩⟩
 ·cases hk
theorem EK{i:Ty}(hi:E.ty 51=some i)(h1:i.size=2):iI κ E 116 (kM 51 [154] [] 118):=by
 intro c vs xs v σ' hs hv h;unfold kM at h;split at h
 case h_2=>cases h
 rename_i x fo;split at h
 case h_2=>cases h
 rename_i hfo;have hfo:=jb hfo;subst hfo;cases hv with
 |cons _ y _ zs hv1 hv2=>
 cases hv2 with
 |cons _ y2 _ zs2 hv3 hv4=>
 cases hv4
 have hy2:y2=.func (.func 118) #[] #[]:=by
  cases hv3 with
  |inl h=>cases h;rfl
  |fn _ _ _ a b ha hb=>cases ha;cases hb;rfl
 subst hy2;obtain⟨rows,hk,hok,hlen,hres⟩:=BN h
 have fin:∀(ys:List (Bool × ByteArray)),rows=ys.map Bn->sK κ 116 [y,.func (.func 118) #[] #[]] c.w (λx w'=>(ys=[]->jO E c .aG c.Z x w')/\(ys≠[]->jO E c (.sl c.Z.length 0 ys.length none) (c.Z++[.cells 51 (lA qE (ys.map Bn)).flatten false]) x w'))->sK κ 116 [y,.func (.func 118) #[] #[]] c.w (jO E c v σ'):=by
  intro ys e hr;refine hr.mono λx w' ⟨k1,k2⟩=>?_;rcases hres with⟨r0,rfl,rfl⟩ | ⟨r0,rfl,rfl⟩
  ·exact k1 (by rw[e]at r0;simpa using r0)
  ·have:=k2 (λe0=>r0 (by rw[e,e0];rfl));rw[e,bw];exact this
 unfold keysOf at hk;split at hk
 case h_2=>cases hk
 rename_i f b;have hy:=Rv hv1;subst hy;split at hk
 ·rename_i hb hf;split at hk
  case h_2=>cases hk
  rename_i es hm;have hk:=dh hk;subst hk;obtain⟨ys,e,hr⟩:=L0 hs hi h1 (kW hf) hb (.inl ⟨_,rfl,hm⟩) hok hlen;exact fin ys e hr
 ·rename_i hb hf;have hk:=dh hk;subst hk;obtain⟨ys,e,hr⟩:=L0 hs hi h1 (kW hf) hb (.inr ⟨_,rfl⟩) hok hlen;exact fin ys e hr
 ·rename_i hf;cases hf
 ·rename_i hf;cases hf
 ·rename_i hf;cases hf
 ·cases hk
end
end
end Go.AxC
namespace Go.AxC
open Go Go.Proofs Go.Ax Go.RowKit Go.Sort Go.Shelf
theorem RH{arr:Array ο}:∀(ys:List ByteArray),(∀j y,ys[j]?=some y->arr[0+j]?=some (Value.string y))->arr.toList.take (ys.map λx=>x.data.toList).length=(ys.map λx=>x.data.toList).map encStr:=by
 intro ys h;apply jw;intro j;rw[bw,js];by_cases hj:j<ys.length
 ·rw[fu hj,fq];have:=h j ys[j] (AT hj);rw[dc]at this;rw[this,jm,AT hj];exact b8 some (BR ys[j]).symm
 ·rw[List.getElem?_take_eq_none (by omega),ir (by simp;omega)]
theorem Jz:∀zs:List ByteArray,((zs.map pH).flatten).length=zs.length
 | []=>rfl
 |z::zs=>by simp only[bj,dn,By,Jz zs,pH,IT,aq];omega
theorem I6(E:Env){i:Ty}(hi:E.ty 9=some i)(h1:i.size=1):iI κ E 79 (qF 9):=by
 intro c vs xs v σ' hs hv h;unfold qF at h;split at h
 ·injection h with h;injection h with e1 e2;subst e1 e2;cases hv with
  |cons _ y _ zs hv1 hv2=>
  cases hv2;have hy:y=.slice none 0 0:=by cases hv1 with | inl h=>cases h;rfl
  subst hy;refine .inl ⟨Tryz.call79 _ _,(AnyM.slices_Sort_string_none Tryz.sort79 none 0 c.w).mono ?_⟩;rintro e w' ⟨rfl,rfl⟩;exact⟨_,rfl,c,rfl,rfl,Ext.refl c,hs,.fR [] [] .nil⟩
 ·rename_i b len cap;split at h
  case h_2=>cases h
  rename_i u cs ex hb;split at h
  case h_2=>cases h
  rename_i h2 h3 h4 h5;injection h with h;injection h with e1 e2;subst e1 e2;have h2:=jb h2;have h3:=jb h3;have h5:=jl h5;subst h2;cases hv with
  |cons _ y _ zs hv1 hv2=>
  cases hv2;obtain⟨arr,k1,k2,k3,k4,k5,k6,k7⟩:=hs.obj b _ hb;obtain⟨ys,e,hy⟩:=rJ k7 cs 0 (λj w hj=>by rw[dc];exact hj) h4
  have hl:ys.length=cs.length:=by
   have:=b8 List.length e;simpa using this.symm
  have hlv:live c.Z b:=⟨_,hb,rfl⟩;cases hv1 with
  |inl h=>cases h
  |sl _ _ _ _ cap' g2 g3 g4 g5=>
   have hH:=holds_of_block (ss:=ys.map λx=>x.data.toList) k1 (RH ys hy);have hgl:c.blk b<c.w.heap.size:=(cg.1 k1).1;have cS:=AnyM.slices_Sort_string Tryz.sort79 (c.blk b) 0 cap' (ys.map λx=>x.data.toList) c.w hH hgl (by rw[bw];omega);rw[bw,hl,<- h3,BI]at cS;refine .inl ⟨Tryz.call79 _ _,cS.mono ?_⟩;rintro e' w' ⟨rfl,n,os,rfl⟩;refine⟨_,rfl,?_⟩;have hp:=(lS (lt:=EH) ys).length_eq;have hheap:=heap_sorted (n:=n) (os:=os) ((iR EH ys).map λx=>x.data.toList).toArray k1;have hgrow:=grownBy_sorted (w:=c.w) (g:=c.blk b) (n:=n) (os:=os) ((iR EH ys).map λx=>x.data.toList).toArray;have htake:=take_putCells arr ((iR EH ys).map λx=>x.data.toList) (by rw[bw,hp,hl];exact k4);rw[<- Bc]at htake;generalize grow (putRow encStr (Sort.ahead c.w n) (c.blk b) 0 ((iR EH ys).map λx=>x.data.toList).toArray) os=w' at *;have hsz:(putCells encStr 0 ((iR EH ys).map λx=>x.data.toList).toArray arr).size=arr.size:=by simp[putCells]
   generalize putCells encStr 0 ((iR EH ys).map λx=>x.data.toList).toArray arr=arr' at *;obtain⟨f1,f2,f3⟩:=Rz (iR EH ys)
   have hrows:(lA strLt (cs.map λv=>[v])).flatten=((iR EH ys).map pH).flatten:=by
    rw[e,AG pH];rfl
   rw[hrows]
   have hlen:(((iR EH ys).map pH).flatten).length=cs.length:=by
    rw[Jz,hp,hl]
   let c1:=c.put b (.cells arr' 9 (0,0)) (.cells 9 ((iR EH ys).map pH).flatten ex)
   have x1:Ext c c1:=Cx.mU hlv _ _
   have s1:SR E c1:=Cx.uZ hs hlv _ _ ⟨arr',by
    show (c.w.heap.setIfInBounds (c.blk b) _)[c.blk b]?=_
    simp[hgl],hsz.trans k2,k3,by rw[hlen,hsz];exact k4,λe=>by rw[hlen,hsz];exact k5 e,f2,λj a hj=>by
     obtain⟨x,q1,q2⟩:=f3 c1 j a hj;refine⟨x,?_,q2⟩;rw[<- htake]at q1
     have hjl:j<((iR EH ys).map λx=>x.data.toList).length:=by
      rw[bw,hp,hl,<- hlen];exact(AI.1 hj).1
     rw[fu hjl,fq]at q1;exact q1⟩
   have hc1:c1.w.heap.size=c.w.heap.size:=by simp[c1,Cx.put]
   obtain⟨x2,s2⟩:=wP s1 (w:=w') (by rw[hc1];exact hgrow.size) (λk hk=>by
    rw[hc1]at hk;by_cases hkb:k=c.blk b
    ·subst hkb;rw[hheap];simp[c1,Cx.put,hgl]
    ·rw[hgrow.block k hk (λe=>hkb (dh e))];simp[c1,Cx.put,Ne.symm hkb]) hgrow.os hgrow.tape hgrow.output
   exact⟨c1.outer w',rfl,rfl,x1.trans x2,s2,.fR [] [] .nil⟩
 ·cases h
end Go.AxC
namespace Go.Proofs.YtmbikbgdbbcbmaaGreatDoor
open Go Go.Ax
theorem mixed:Tryz.prog.follows .mixedOrders=true:=by kernel_rfl
noncomputable def bare:Ax.Ground κ:={ ground with hspec:=.nil }
theorem aa3:∀t,ground.Ey t=true->liesAt κ Tryz.prog.depth t 1 0 t 1=true:=by
 intro t h;have h':ca t 267=true:=h;have e:=jb h';subst e;show liesAt κ Tryz.prog.depth 267 1 0 267 1=true
 kernel_rfl
theorem RL:nG bare:=⟨HL,I_,Jf,aa3,trivial⟩
theorem MU:cG κ (bare.env .nil):=RL.MQ _
theorem MT:f_ κ (bare.env .nil):=RL.MI (s:=.nil) trivial
theorem Sj:Ax.Alike (bare.env .nil) (ground.env .nil):=⟨rfl,rfl⟩
theorem J9:fJ κ (ground.env .nil) 267 jP:=AE _
theorem J_:fJ κ (ground.env .nil) 185 kR:=Gz _ rfl
theorem J7:fJ κ (ground.env .nil) 308 wE:=J5 _ rfl
theorem Ka:fJ κ (ground.env .nil) 159 oF:=
 (HU (E:=bare.env .nil) MU MT mixed (by kernel_rfl) (by kernel_rfl) (by kernel_rfl) (by kernel_rfl) (by kernel_rfl) (by kernel_rfl) (by kernel_rfl) (by kernel_rfl) (by kernel_rfl) (by kernel_rfl) (by kernel_rfl) (by kernel_rfl) (by kernel_rfl) (by kernel_rfl) (by kernel_rfl)).alike Sj
theorem ab2:iI κ (ground.env .nil) 94 (tO 9 [131,327] [260]):=
 Go.AxC.EJ (i:=dJ) (by kernel_rfl) (by kernel_rfl)
theorem Xq:iI κ (ground.env .nil) 116 (kM 51 [154] [] 118):=
 Go.AxC.EK (i:=bU) (by kernel_rfl) (by kernel_rfl)
theorem Xp:iI κ (ground.env .nil) 125 MD:=
 (Rm (E:=bare.env .nil) MU MT mixed (by kernel_rfl) (sz:=uD.size) (by_:=uD.bytes) (zv:=uD.zero) (sz9:=dJ.size) (by9:=dJ.bytes) (z9:=dJ.zero) (by kernel_rfl) (by kernel_rfl)).alike Sj
theorem ab3:iI κ (ground.env .nil) 79 (qF 9):=Go.AxC.I6 _ (i:=dJ) (by kernel_rfl) (by kernel_rfl)
theorem Xo:iI κ (ground.env .nil) 318 Cs:=KN _
theorem Xn:iI κ (ground.env .nil) 320 (MC 5):=Rl _ (i:=ty5) (by kernel_rfl) (by kernel_rfl) fy
theorem Aa:nG ground:=⟨HL,I_,Jf,aa3,⟨⟨ab3,⟨ab2,Xq⟩⟩,⟨Xp,⟨Xo,Xn⟩⟩⟩⟩
abbrev k_(s:BT (List V->Option V)):Prop:=s.Av (fJ κ (ground.env .nil))
abbrev xO(f:Nat)(t:List (List V × V)):Prop:=fJ κ (ground.env .nil) f (bM t)
theorem PJ:k_ sp0:=⟨⟨Ka,J_⟩,⟨J9,J7⟩⟩
theorem eI{s:BT (List V->Option V)}(hs:k_ s){f:Nat}{F:Ax.Fn}(hF:MJ.get f=some F){t:List (List V × V)}(h:kE (ground.env s) f t=true):fJ κ (ground.env .nil) f (bM t):=Aa.memo hs mixed hF (L5 h)
theorem gX{s:BT (List V->Option V)}{f:Nat}{t:List (List V × V)}(h:xO f t)(k:k_ s):k_ (s.put f (bM t)):=BT.GL (p:=fJ κ (ground.env .nil)) h k
theorem V7:xO 266 t266:=eI PJ (F:=aA Tryz.f266) (by kernel_rfl) a266
theorem PB:k_ Vg:=gX V7 PJ
theorem V9:xO 237 t237:=eI PB (F:=aA Tryz.f237) (by kernel_rfl) a237
theorem PA:k_ St:=gX V9 PB
theorem We:xO 199 t199:=eI PA (F:=aA Tryz.f199) (by kernel_rfl) a199
theorem Pz:k_ Ss:=gX We PA
theorem Wa:xO 212 t212:=eI Pz (F:=aA Tryz.f212) (by kernel_rfl) a212
theorem Py:k_ sp4:=gX Wa Pz
theorem Wh:xO 150 t150:=eI Py (F:=aA Tryz.f150) (by kernel_rfl) a150
theorem Px:k_ HV:=gX Wh Py
theorem V_:xO 215 t215:=eI Px (F:=aA Tryz.f215) (by kernel_rfl) a215
theorem Pw:k_ sp6:=gX V_ Px
theorem Wi:xO 149 t149:=eI Pw (F:=aA Tryz.f149) (by kernel_rfl) a149
theorem Pv:k_ YB:=gX Wi Pw
theorem Wm:xO 119 t119:=eI Pv (F:=aA Tryz.f119) (by kernel_rfl) a119
theorem Pu:k_ sp8:=gX Wm Pv
theorem Wg:xO 158 t158:=eI Pu (F:=aA Tryz.f158) (by kernel_rfl) a158
theorem Pt:k_ sp9:=gX Wg Pu
theorem Wl:xO 120 t120:=eI Pt (F:=aA Tryz.f120) (by kernel_rfl) a120
theorem LW:k_ V6:=gX Wl Pt
theorem Zw:xO 68 t68:=eI LW (F:=aA Tryz.f68) (by kernel_rfl) a68
theorem LU:k_ V5:=gX Zw LW
theorem Zv:xO 69 t69:=eI LU (F:=aA Tryz.f69) (by kernel_rfl) a69
theorem LR:k_ PF:=gX Zv LU
theorem ZC:xO 13 t13:=eI LR (F:=aA Tryz.f13) (by kernel_rfl) a13
theorem LQ:k_ PE:=gX ZC LR
theorem Zt:xO 78 t78:=eI LQ (F:=aA Tryz.f78) (by kernel_rfl) a78
theorem LP:k_ S0:=gX Zt LQ
theorem ZB:xO 23 t23:=eI LP (F:=aA Tryz.f23) (by kernel_rfl) a23
theorem LO:k_ SZ:=gX ZB LP
theorem ZA:xO 25 t25:=eI LO (F:=aA Tryz.f25) (by kernel_rfl) a25
theorem LN:k_ SY:=gX ZA LO
theorem Zs:xO 88 t88:=eI LN (F:=aA Tryz.f88) (by kernel_rfl) a88
theorem LM:k_ PD:=gX Zs LN
theorem Zr:xO 93 t93:=eI LM (F:=aA Tryz.f93) (by kernel_rfl) a93
theorem LL:k_ SX:=gX Zr LM
theorem Zy:xO 32 t32:=eI LL (F:=aA Tryz.f32) (by kernel_rfl) a32
theorem LK:k_ PC:=gX Zy LL
theorem Zz:xO 28 t28:=eI LK (F:=aA Tryz.f28) (by kernel_rfl) a28
theorem LJ:k_ SU:=gX Zz LK
theorem Wk:xO 139 t139:=eI LJ (F:=aA Tryz.f139) (by kernel_rfl) a139
theorem LI:k_ V4:=gX Wk LJ
theorem Wj:xO 142 t142:=eI LI (F:=aA Tryz.f142) (by kernel_rfl) a142
theorem LH:k_ V3:=gX Wj LI
theorem Wd:xO 202 t202:=eI LH (F:=aA Tryz.f202) (by kernel_rfl) a202
theorem LG:k_ SQ:=gX Wd LH
theorem Wc:xO 203 t203:=eI LG (F:=aA Tryz.f203) (by kernel_rfl) a203
theorem LF:k_ V2:=gX Wc LG
theorem Wb:xO 206 t206:=eI LF (F:=aA Tryz.f206) (by kernel_rfl) a206
theorem LD:k_ SP:=gX Wb LF
theorem V8:xO 242 t242:=eI LD (F:=aA Tryz.f242) (by kernel_rfl) a242
theorem LC:k_ VZ:=gX V8 LD
theorem Wf:xO 177 t177:=eI LC (F:=aA Tryz.f177) (by kernel_rfl) a177
theorem LB:k_ VY:=gX Wf LC
theorem Wn:xO 115 t115:=eI LB (F:=aA Tryz.f115) (by kernel_rfl) a115
theorem LA:k_ VX:=gX Wn LB
theorem Zu:xO 77 t77:=eI LA (F:=aA Tryz.f77) (by kernel_rfl) a77
theorem Lz:k_ VW:=gX Zu LA
theorem Wo:xO 101 t101:=eI Lz (F:=aA Tryz.f101) (by kernel_rfl) a101
theorem SO:k_ YG:=gX Wo Lz
theorem Vh:xO 11 t11:=eI SO (F:=aA Tryz.f11) (by kernel_rfl) a11
end Go.Proofs.YtmbikbgdbbcbmaaGreatDoor
namespace Go.Ax
open Go
section
section
variable {E:Env}{ev:yQ}{frz:Fz}{ops:Array cd}
def sw(i k:Nat):Nat:=if k=i then i+1 else if k=i+1 then i else k
def tw(π:Nat->Nat)(i k:Nat)(o:cd):cd:={ o with after:=((o.after.toList.map λe:Edge=>({ e with on:=π e.on }:Edge))++if k=i+1 then [(⟨i,.data⟩:Edge)] else []).toArray }
def two(π:Nat->Nat)(ops:Array cd)(i:Nat):Array cd:=match ops[0]? with
 |none=>#[]
 |some d=>((List.range ops.size).map λk=>tw π i k (ops.getD (π k) d)).toArray
def tw2(π:Nat->Nat)(s d k:Nat)(o:cd):cd:={ o with after:=((o.after.toList.map λe:Edge=>({ e with on:=π e.on }:Edge))++if k=d then [(⟨s,.data⟩:Edge)] else []).toArray }
def perm(π ρ:Nat->Nat)(s d:Nat)(ops:Array cd):Array cd:=match ops[0]? with
 |none=>#[]
 |some x=>((List.range ops.size).map λk=>tw2 π s d k (ops.getD (ρ k) x)).toArray
end
def As(P:ar)(c:Code)(Q:Exit->Act->Γ->Prop)(a:Act)(w:Γ):Prop:=∀b k cs,∃e a' w',Q e a' w'/\Arrives P (lone (b.at a (.code c::.inLoop c::k)) cs w) b k cs e a' w'
section
variable {P:ar}{Q:Exit->Act->Γ->Prop}{a:Act}{w:Γ}{c:Code}
theorem HD(h:As P c Q a w):(Code.loop c).wp P Q a w:=λb k cs=>by
 obtain⟨e,a',w',hq,harr⟩:=h b k cs;exact⟨e,a',w',hq,.of_steps (.one step_loop) harr⟩
theorem IG(h:c.wp P (Exit.then (As P c Q) Q) a w):As P c Q a w:=λb k cs=>by
 obtain⟨e,a₁,w₁,hq,harr⟩:=h b (.inLoop c::k) cs;cases e with
 |normal=>
  obtain⟨e₂,a₂,w₂,hq₂,harr₂⟩:=hq b k cs;exact⟨e₂,a₂,w₂,hq₂,.of_steps (Steps.trans harr (.one step_inLoop)) harr₂⟩
 |exit id=>exact⟨_,a₁,w₁,hq,.pass (x:=.inLoop c) rfl (λ_ _=>.inl (by simp)) harr⟩
 |goto l=>exact⟨_,a₁,w₁,hq,.pass (x:=.inLoop c) rfl (λ_ _=>.inl (by simp)) harr⟩
 |ret=>exact⟨_,a₁,w₁,hq,.pass (x:=.inLoop c) rfl (λ_ _=>.inl (by simp)) harr⟩
 |panic ch=>exact⟨_,a₁,w₁,hq,.pass (x:=.inLoop c) rfl (λ_ _=>.inl (by simp)) harr⟩
 |outgrown=>exact⟨_,a₁,w₁,hq,.pass (x:=.inLoop c) rfl (λ_ _=>.inl (by simp)) harr⟩
end
inductive M4 (E:Env):Code->Fr->Sg->(X->Fr->Sg->Prop)->Prop
 |run {c:Code}{fr:Fr}{Z:Sg}{Q:X->Fr->Sg->Prop} (n:Nat) (x:X) (fr':Fr) (σ':Sg):ev E n c fr Z=some (x,fr',σ')->Q x fr' σ'->M4 E c fr Z Q
 |seq {a b:Code}{fr:Fr}{Z:Sg}{Q:X->Fr->Sg->Prop} (Q1:X->Fr->Sg->Prop):M4 E a fr Z Q1->(∀x fr Z,Q1 x fr Z->x≠.normal->Q x fr Z)->(∀fr Z,Q1 .normal fr Z->M4 E b fr Z Q)->M4 E (.seq a b) fr Z Q
 |yes {o:χ}{a b:Code}{fr:Fr}{Z:Sg}{Q:X->Fr->Sg->Prop}:aS fr o=some (.bool true)->M4 E a fr Z Q->M4 E (.cond o a b) fr Z Q
 |no {o:χ}{a b:Code}{fr:Fr}{Z:Sg}{Q:X->Fr->Sg->Prop}:aS fr o=some (.bool false)->M4 E b fr Z Q->M4 E (.cond o a b) fr Z Q
 |block {id:Nat}{c:Code}{fr:Fr}{Z:Sg}{Q:X->Fr->Sg->Prop} (Q1:X->Fr->Sg->Prop):M4 E c fr Z Q1->(∀x fr Z,Q1 x fr Z->x≠.exit id->Q x fr Z)->(∀fr Z,Q1 (.exit id) fr Z->Q .normal fr Z)->M4 E (.block id c) fr Z Q
 |loop {c:Code}{fr:Fr}{Z:Sg}{Q:X->Fr->Sg->Prop} (Q1:X->Fr->Sg->Prop):M4 E c fr Z Q1->(∀x fr Z,Q1 x fr Z->x≠.normal->Q x fr Z)->(∀fr Z,Q1 .normal fr Z->M4 E (.loop c) fr Z Q)->M4 E (.loop c) fr Z Q
 |drawn {id:Nat}{ops:Array cd}{fr:Fr}{Z:Sg}{Q:X->Fr->Sg->Prop} (n:Nat) (frz:Fz) (S:List (Fr × Sg)):(∀t,∃q r:Fr × Sg,r∈S/\MP E (ev E n) frz ops (Region.linearise .any ops t) fr Z=some q/\q.2=r.2/\q.1.n=r.1.n/\∀u,q.1.get u=r.1.get u)->(∀r,r∈S->Q .normal r.1 r.2)->M4 E (.region id ops true) fr Z Q
section
variable {P:ar}{E:Env}{c:Cx}
theorem K6(he:cG P E)(hs:SR E c){ats:Array Nat}{ty st e n b off len:Nat}{si i:Ty}{cs new:List V}{ex:Bool}{xv:V}{s x:ο}(hat:ats[0]?=some st)(hsi:E.ty st=some si)(hkd:si.kd=.sl e)(hi:E.ty e=some i)(hpl:eD E ats=true)(hi0:i.size≠0)
  (hel:elems c.Z i.size xv=some (new,n))(hob:c.Z[b]?=some (.cells e cs ex))(hle:off+len*i.size<=cs.length)(hrm:roomy (len+n) i.bytes=true)(hsv:VR c (.sl b off len none) s)(hxv:VR c xv x) :
  gP E c ((Builtin.append_ ats ty #[s,x]).run P c.w) (.sl b off (len+n) none) (c.Z.set b (.cells e (cs.take (off+len*i.size)++new) false)) \/
  gP E c ((Builtin.append_ ats ty #[s,x]).run P c.w) (.sl c.Z.length 0 (len+n) none) (c.Z++[.cells e ((cs.drop off).take (len*i.size)++new) false]):=by
 have hz:∀xt,ats[1]?=some xt->∃xi,E.ty xt=some xi/\(∀k,xi.kd≠.int k):=by
  intro xt hx;have:=hpl;simp only[eD,hx]at this;split at this
  ·rename_i xi hxi;refine⟨xi,hxi,λk hk=>?_⟩;rw[hk]at this;cases this
  ·cases this
 obtain⟨news,hnV,hnl,hfc,hlo,hok⟩:=mH (P:=P) hs hel hxv;obtain⟨cap',rfl,hb,hl,hk1,hk2⟩:=hsv.mR;obtain⟨arr,a1,a2,⟨i',a3,a3'⟩,a4,a5,a6,a7⟩:=(hs.obj b _ hob).jC;have hii:i'=i:=by rw[hi]at a3;exact(dh a3).symm
 subst hii;have hlv:live c.Z b:=⟨_,hob,rfl⟩;have hel2:elems c.Z i'.size (.sl b off len none)=some ((cs.drop off).take (len*i'.size),len):=by simp[elems,hob,hle]
 obtain⟨olds,hoV,hol,hofc,_,hook⟩:=mH (P:=P) hs hel2 hsv;have htot:=hk2 rfl;rw[a3']at htot;rcases cr cap' (len+n) with h1 | hin
 ·obtain⟨nc,rest,g1,g2,g3⟩:=kD he hsi hkd hi ats ty hat hz rfl hlo h1 (sW hrm h1) c.w hofc hfc;obtain⟨c',q1,q2,q3,q4,q5⟩:=mY hs hi (hoV.append hnV) (pL hook hok) (by simp[hol,hnl,Nat.add_mul]) g2 g1;exact .inr ⟨c',_,by rw[g3,q1],q2,q3,q4,q5⟩
 ·left
  have hnv:=hnV.len;obtain⟨vals,hvals⟩:∃vals:List ο,vals=arr.toList.take (off+len*i'.size)++news++arr.toList.drop (off+len*i'.size+news.length):=⟨_,rfl⟩
  have hroom:off+len*i'.size+news.length<=arr.size:=by
   have:(len+n)*i'.size<=cap'*i'.size:=gk _ hin;rw[oe]at this;omega
  have hvl:vals.toArray.size=arr.size:=by rw[hvals];simp;omega
  let O1:O:=.cells e (cs.take (off+len*i'.size)++new) false
  let c1:Cx:=c.put b (.cells vals.toArray e (0,0)) O1
  have e1:Ext c c1:=Cx.mU hlv _ _
  have hV2:fH c1 (cs.take (off+len*i'.size)++new) (arr.toList.take (off+len*i'.size)++news):=by
   have:=(a6.take (off+len*i'.size)).append hnV;rw[nr,mq (by omega)]at this;exact fH.mono e1 this
  have s1:SR E c1:=by
   refine Cx.uZ hs hlv _ _ ?_;refine uN.vV (arr:=vals.toArray) (xs:=arr.toList.take (off+len*i'.size)++news) (ys:=arr.toList.drop (off+len*i'.size+news.length)) ?_ ?_ ⟨i',hi,?_⟩ (λh=>by cases h) (by simp[hvals]) hV2 (pL (by have:=Mb (cs:=cs) (a:=0) (b:=off+len*i'.size) a7;simpa using this) hok)
   ·have:=jI a1;simp[Cx.put,this]
   ·show _=c.tot b;rw[hvl,a2]
   ·exact a3'
  refine⟨c1,.slice (some ⟨c.blk b,off,none⟩) (len+n) cap',?_,rfl,e1,s1,?_⟩
  ·rw[lJ he hsi hkd hi ats ty hat hz hlo hin c.w (hfc c.w λ_ _=>rfl)];have hrun':=run_storeCells_at (P:=P) (c.blk b) (off+len*i'.size) e news 0 arr c.w a1 (by omega) (hnV.lQ hok);rw[wH a1]at hrun';simp only[l6]at hrun';rw[<- hvals]at hrun';simp only[Addr.add_lit,hrun',Result.andThen_ok];rfl
  ·show VR c1 _ (.slice (some ⟨c1.blk b,off,none⟩) (len+n) cap');exact .sl _ _ _ _ _ (ig hb e1.len) hin (λk hk=>by cases hk) (λ_=>hk2 rfl)
end
def wA(r r':yQ):Prop:=∀c fr Z x,r c fr Z=some x->r' c fr Z=some x
section
variable {E:Env}{r r':yQ}
theorem D6(h:wA r r'){F:Fn}{args:List V}{Z:Sg}{x:V × Sg}(he:enter E r F args Z=some x):enter E r' F args Z=some x:=by
 unfold enter at he ⊢;cases hi:Fr.init F.ntmps args with
 |none=>rw[hi]at he;cases he
 |some fr=>
  rw[hi]at he;dsimp only at he ⊢;cases hr:r F.code fr Z with
  |none=>rw[hr]at he;cases he
  |some y=>rw[h _ _ _ _ hr];rw[hr]at he;exact he
theorem tX(h:wA r r'){f:Nat}{args:List V}{Z:Sg}{x:V × Sg}(he:iH E r f args Z=some x):iH E r' f args Z=some x:=by
 unfold iH at he ⊢;cases h1:E.hspec f with
 |some s=>rw[h1]at he;exact he
 |none=>
 rw[h1]at he;dsimp only at he ⊢;cases h2:E.spec f with
 |some s=>rw[h2]at he;exact he
 |none=>
 rw[h2]at he;dsimp only at he ⊢;cases h3:E.fn f with
 |none=>rw[h3]at he;cases he
 |some F=>
 rw[h3]at he;dsimp only at he ⊢
 have eW:∀(g:Bool),(match aW (aR Z E.ty g) args with
    |some args'=>match enter E r F args' [] with
     |some (v,σ1)=>match cQ σ1 E.ty false v with
      |some v=>some (v,if g then Z else kill Z (args.flatMap (nD Z)))
      |none=>no ("result of function " ++ toString f)
     |none=>no ("in function " ++ toString f)
    |none=>no ("args of function " ++ toString f))=some x->(match aW (aR Z E.ty g) args with
    |some args'=>match enter E r' F args' [] with
     |some (v,σ1)=>match cQ σ1 E.ty false v with
      |some v=>some (v,if g then Z else kill Z (args.flatMap (nD Z)))
      |none=>no ("result of function " ++ toString f)
     |none=>no ("in function " ++ toString f)
    |none=>no ("args of function " ++ toString f))=some x:=by
  intro g he;cases h4:aW (aR Z E.ty g) args with
  |none=>rw[h4]at he;cases he
  |some args'=>
   rw[h4]at he;dsimp only at he ⊢;cases h5:enter E r F args' [] with
   |none=>rw[h5]at he;cases he
   |some y=>rw[D6 h h5];rw[h5]at he;exact he
 cases hm:E.mode f with
 |shared=>
  rw[hm]at he;dsimp only at he ⊢;cases h5:enter E r F args Z with
  |none=>rw[h5]at he;cases he
  |some y=>rw[D6 h h5];rw[h5]at he;exact he
 |eW=>rw[hm]at he;exact eW _ he
 |move=>rw[hm]at he;exact eW _ he
theorem zM(h:wA r r'){dr:Fz}{op:Op}{fr:Fr}{Z:Sg}{x:V × Sg}(he:lD E r dr op fr Z=some x):lD E r' dr op fr Z=some x:=by
 unfold lD at he ⊢;cases hc:comp E op with
 |plain f=>rw[hc]at he;exact he
 |lit t len parts=>rw[hc]at he;exact he
 |app args ats=>rw[hc]at he;exact he
 |call f args=>
  rw[hc]at he;dsimp only at he ⊢;split at he
  ·exact tX h he
  ·cases he
theorem CT(h:wA r r'){dr:Fz}{ops:Array cd}{o:cd}{fr:Fr}{Z:Sg}{x:Fr × Sg}(he:bN E r dr ops o fr Z=some x):bN E r' dr ops o fr Z=some x:=by
 unfold bN at he ⊢;split at he
 ·rename_i hw;rw[az hw];cases ho:lD E r dr o.op fr Z with
  |none=>rw[ho]at he;cases he
  |some y=>rw[zM h ho];rw[ho]at he;exact he
 ·rename_i hw;rw[an hw];exact he
theorem tU(h:wA r r'){dr:Fz}{ops:Array cd}:∀{l:List cd}{fr:Fr}{Z:Sg}{x:Fr × Sg},gY E r dr ops l fr Z=some x->gY E r' dr ops l fr Z=some x
 | [],_,_,_,he=>he
 |o::l,fr,Z,x,he=>by
  rw[gY]at he ⊢;cases ho:bN E r dr ops o fr Z with
  |none=>rw[ho]at he;cases he
  |some y=>rw[CT h ho];rw[ho]at he;exact tU h he
theorem CO(h:wA r r'){dr:Fz}{ops:Array cd}:∀{l:List cd}{fr:Fr}{Z:Sg}{x:List (Fr × Sg)},iQ E r dr ops l fr Z=some x->iQ E r' dr ops l fr Z=some x
 | [],_,_,_,he=>he
 |o::l,fr,Z,x,he=>by
  rw[iQ]at he ⊢;cases ho:bN E r dr ops o fr Z with
  |none=>rw[ho]at he;cases he
  |some y=>
   rw[CT h ho];rw[ho]at he;dsimp only at he ⊢;cases ht:iQ E r dr ops l y.1 y.2 with
   |none=>rw[ht]at he;cases he
   |some z=>rw[CO h ht];rw[ht]at he;exact he
theorem Et(h:wA r r'){dr:Fz}{ops:Array cd}{o:cd}{fr:Fr}{Z Y:Sg}(he:again E r dr ops o fr Z Y=true):again E r' dr ops o fr Z Y=true:=by
 unfold again at he ⊢;rw[fl]at he ⊢;refine he.imp id λhe=>?_;cases h1:lD E r dr o.op fr Z with
 |none=>rw[h1]at he;cases he
 |some y=>
  rw[h1]at he;rw[zM h h1];cases h2:lD E r dr o.op fr Y with
  |none=>rw[h2]at he;cases he
  |some z=>rw[h2]at he;rw[zM h h2];exact he
theorem Iw(h:wA r r'){dr:Fz}{ops:Array cd}{ts:List (Fr × Sg)}{d:ER}(he:iM E r dr ops ts d=true):iM E r' dr ops ts d=true:=by
 unfold iM at he ⊢;split at he
 ·simp only[ak,fl]at he ⊢;exact⟨he.1.imp id (Et h),he.2.imp id (Et h)⟩
 ·cases he
theorem vS(h:wA r r'){ops:Array cd}{fr:Fr}{Z:Sg}{x:Fr × Sg}(he:cP E r ops fr Z=some x):cP E r' ops fr Z=some x:=by
 unfold cP at he ⊢;split at he
 ·cases he
 ·exact tU h he
 ·rename_i l hn e;cases ht:iQ E r (fP E ops) ops ops.toList fr Z with
  |none=>rw[ht]at he;cases he
  |some ts=>
   rw[ht]at he;rw[CO h ht];dsimp only at he ⊢;split at he
   ·rename_i hl;rw[az]
    ·cases l with
     |nil=>exact absurd rfl (hn ·)
     |cons d l=>exact he
    ·rw[eu]at hl ⊢;exact λd hd=>Iw h (hl d hd)
   ·cases he
end
theorem Jd(E:Env):∀n,wA (ev E n) (ev E (n+1))
 |0=>λc fr Z x h=>by rw[ev]at h;cases h
 |n+1=>λc fr Z x h=>by
  have ih:=Jd E n;cases c with
  |skip=>rw[ev]at h ⊢;exact h
  |exit id=>rw[ev]at h ⊢;exact h
  |ret=>rw[ev]at h ⊢;exact h
  |seq a b=>
   rw[ev]at h ⊢
   try dsimp only at h ⊢
   cases ha:ev E n a fr Z with
   |none=>rw[ha]at h;cases h
   |some y=>
    rw[ih _ _ _ _ ha];rw[ha]at h;obtain⟨x1,fr1,σ1⟩:=y;cases x1 with
    |normal=>exact ih _ _ _ _ h
    |exit id=>cases h;rfl
    |ret=>cases h;rfl
  |cond c t e=>
   rw[ev]at h ⊢
   try dsimp only at h ⊢
   split at h
   ·exact ih _ _ _ _ h
   ·exact ih _ _ _ _ h
   ·cases h
  |block id a=>
   rw[ev]at h ⊢
   try dsimp only at h ⊢
   cases ha:ev E n a fr Z with
   |none=>rw[ha]at h;cases h
   |some y=>rw[ih _ _ _ _ ha];rw[ha]at h;exact h
  |loop a=>
   rw[ev]at h ⊢
   try dsimp only at h ⊢
   cases ha:ev E n a fr Z with
   |none=>rw[ha]at h;cases h
   |some y=>
    rw[ih _ _ _ _ ha];rw[ha]at h;obtain⟨x1,fr1,σ1⟩:=y;cases x1 with
    |normal=>exact ih _ _ _ _ h
    |exit id=>cases h;rfl
    |ret=>cases h;rfl
  |region id ops draw=>
   rw[ev]at h ⊢
   try dsimp only at h ⊢
   cases draw with
   |true=>
    simp only[bf]at h ⊢;cases ha:cP E (ev E n) ops fr Z with
    |none=>rw[ha]at h;cases h
    |some y=>rw[vS ih ha];rw[ha]at h;exact h
   |false=>
    simp only[ai,b9]at h ⊢;cases ha:gY E (ev E n) .no ops ops.toList fr Z with
    |none=>rw[ha]at h;cases h
    |some y=>rw[tU ih ha];rw[ha]at h;exact h
  |_=>unfold ev at h;cases h
theorem nB(E : Env){n m : Nat}(h : n <= m) : wA (ev E n) (ev E m) := by
  induction m with
  | zero => obtain rfl : n = 0 := by omega
            exact fun _ _ _ _ h => h
  | succ m ih =>
    by_cases e : n = m + 1
    · subst e; exact fun _ _ _ _ h => h
    · exact fun c fr Z x hx => Jd E m _ _ _ _ (ih (by omega) c fr Z x hx)
def Wp(E:Env)(c:Code)(fr:Fr)(Z:Sg)(Q:X->Fr->Sg->Prop):Prop:=∃n x fr' σ',ev E n c fr Z=some (x,fr',σ')/\Q x fr' σ'
def uL(E:Env)(ops:Array cd)(l:List cd)(fr:Fr)(Z:Sg)(Q:Fr->Sg->Prop):Prop:=∃n fr' σ',gY E (ev E n) .no ops l fr Z=some (fr',σ')/\Q fr' σ'
def Sl(E:Env)(ops:Array cd)(fr:Fr)(Z:Sg)(Q:Fr->Sg->Prop):Prop:=∃n fr' σ',cP E (ev E n) ops fr Z=some (fr',σ')/\Q fr' σ'
def kZ(E:Env)(op:Op)(fr:Fr)(Z:Sg)(K:V->Sg->Prop):Prop:=∃n v σ',lD E (ev E n) .no op fr Z=some (v,σ')/\K v σ'
def aB(E:Env)(f:Nat)(args:List V)(Z:Sg)(K:V->Sg->Prop):Prop:=∃n v σ',iH E (ev E n) f args Z=some (v,σ')/\K v σ'
section
variable {E:Env}{fr:Fr}{Z:Sg}{Q:X->Fr->Sg->Prop}
theorem Wp.of{n:Nat}{c:Code}{x:X}{fr':Fr}{σ':Sg}(h:ev E n c fr Z=some (x,fr',σ'))(hq:Q x fr' σ'):Wp E c fr Z Q:=⟨n,x,fr',σ',h,hq⟩
theorem Wp.mono{Q':X->Fr->Sg->Prop}{c:Code}(h:Wp E c fr Z Q)(hq:∀x fr Z,Q x fr Z->Q' x fr Z):Wp E c fr Z Q':=by
 obtain⟨n,x,fr',σ',h1,h2⟩:=h;exact⟨n,x,fr',σ',h1,hq _ _ _ h2⟩
theorem wp_skip:Wp E .skip fr Z Q=Q .normal fr Z:=propext ⟨λ⟨n,x,fr',σ',h,hq⟩=>by
 cases n with
 |zero=>cases h
 |succ n=>rw[ev]at h;cases h;exact hq,λh=>⟨1,_,_,_,rfl,h⟩⟩
theorem wp_exit{id:Nat}:Wp E (.exit id) fr Z Q=Q (.exit id) fr Z:=propext ⟨λ⟨n,x,fr',σ',h,hq⟩=>by
 cases n with
 |zero=>cases h
 |succ n=>rw[ev]at h;cases h;exact hq,λh=>⟨1,_,_,_,rfl,h⟩⟩
theorem wp_ret:Wp E .ret fr Z Q=Q .ret fr Z:=propext ⟨λ⟨n,x,fr',σ',h,hq⟩=>by
 cases n with
 |zero=>cases h
 |succ n=>rw[ev]at h;cases h;exact hq,λh=>⟨1,_,_,_,rfl,h⟩⟩
theorem wp_seq{a b:Code}:Wp E (.seq a b) fr Z Q=Wp E a fr Z λx fr Z=>match x with
  | .normal=>Wp E b fr Z Q
  |x=>Q x fr Z:=propext ⟨λ⟨n,x,fr',σ',h,hq⟩=>by
 cases n with
 |zero=>cases h
 |succ n=>
  rw[ev]at h
  try dsimp only at h
  cases ha:ev E n a fr Z with
  |none=>rw[ha]at h;cases h
  |some y=>
   rw[ha]at h;obtain⟨x1,fr1,σ1⟩:=y;refine⟨n,x1,fr1,σ1,ha,?_⟩;cases x1 with
   |normal=>exact⟨n,x,fr',σ',h,hq⟩
   |_=>cases h;exact hq,λ⟨n,x,fr1,σ1,h,hq⟩=>by
 cases x with
 |normal=>
  obtain⟨m,x,fr',σ',h2,hq⟩:=hq;refine⟨max n m+1,x,fr',σ',?_,hq⟩;rw[ev]
  try dsimp only
  rw[nB E (pd n m) _ _ _ _ h];exact nB E (qj n m) _ _ _ _ h2
 |exit id=>exact⟨n+1,_,fr1,σ1,by rw[ev]; (try dsimp only);rw[h],hq⟩
 |ret=>exact⟨n+1,_,fr1,σ1,by rw[ev]; (try dsimp only);rw[h],hq⟩⟩
theorem wp_cond{c:χ}{t e:Code}:Wp E (.cond c t e) fr Z Q=match aS fr c with
  |some (.bool true)=>Wp E t fr Z Q
  |some (.bool false)=>Wp E e fr Z Q
  |_=>False:=by
 apply propext;constructor
 ·rintro⟨n,x,fr',σ',h,hq⟩;cases n with
  |zero=>cases h
  |succ n=>
   rw[ev]at h
   try dsimp only at h
   split at h
   ·rename_i e1;rw[e1];exact⟨n,_,_,_,h,hq⟩
   ·rename_i e1;rw[e1];exact⟨n,_,_,_,h,hq⟩
   ·cases h
 ·intro h;split at h
  ·rename_i e1;obtain⟨n,x,fr',σ',h,hq⟩:=h;refine⟨n+1,x,fr',σ',?_,hq⟩;rw[ev]; (try dsimp only);rw[e1];exact h
  ·rename_i e1;obtain⟨n,x,fr',σ',h,hq⟩:=h;refine⟨n+1,x,fr',σ',?_,hq⟩;rw[ev]; (try dsimp only);rw[e1];exact h
  ·exact h.elim
theorem wp_block{id:Nat}{c:Code}:Wp E (.block id c) fr Z Q=Wp E c fr Z λx fr Z=>match x with
  | .exit id'=>if id'=id then Q .normal fr Z else Q (.exit id') fr Z
  |x=>Q x fr Z:=propext ⟨λ⟨n,x,fr',σ',h,hq⟩=>by
 cases n with
 |zero=>cases h
 |succ n=>
  rw[ev]at h
  try dsimp only at h
  cases ha:ev E n c fr Z with
  |none=>rw[ha]at h;cases h
  |some y=>
   rw[ha]at h;obtain⟨x1,fr1,σ1⟩:=y;refine⟨n,x1,fr1,σ1,ha,?_⟩;cases x1 with
   |exit id'=>
    try dsimp only at h ⊢
    split at h
    ·rename_i e;rw[az e];cases h;exact hq
    ·rename_i e;rw[an e];cases h;exact hq
   |_=>cases h;exact hq,λ⟨n,x,fr1,σ1,h,hq⟩=>by
 cases x with
 |exit id'=>
  try dsimp only at hq
  split at hq
  ·rename_i e;exact⟨n+1,_,fr1,σ1,by rw[ev]; (try dsimp only);rw[h]; (try dsimp only);rw[az e],hq⟩
  ·rename_i e;exact⟨n+1,_,fr1,σ1,by rw[ev]; (try dsimp only);rw[h]; (try dsimp only);rw[an e],hq⟩
 |normal=>exact⟨n+1,_,fr1,σ1,by rw[ev]; (try dsimp only);rw[h],hq⟩
 |ret=>exact⟨n+1,_,fr1,σ1,by rw[ev]; (try dsimp only);rw[h],hq⟩⟩
theorem wp_loop{c:Code}:Wp E (.loop c) fr Z Q=Wp E c fr Z λx fr Z=>match x with
  | .normal=>Wp E (.loop c) fr Z Q
  |x=>Q x fr Z:=propext ⟨λ⟨n,x,fr',σ',h,hq⟩=>by
 cases n with
 |zero=>cases h
 |succ n=>
  rw[ev]at h
  try dsimp only at h
  cases ha:ev E n c fr Z with
  |none=>rw[ha]at h;cases h
  |some y=>
   rw[ha]at h;obtain⟨x1,fr1,σ1⟩:=y;refine⟨n,x1,fr1,σ1,ha,?_⟩;cases x1 with
   |normal=>exact⟨n,x,fr',σ',h,hq⟩
   |_=>cases h;exact hq,λ⟨n,x,fr1,σ1,h,hq⟩=>by
 cases x with
 |normal=>
  obtain⟨m,x,fr',σ',h2,hq⟩:=hq;refine⟨max n m+1,x,fr',σ',?_,hq⟩;rw[ev]
  try dsimp only
  rw[nB E (pd n m) _ _ _ _ h];exact nB E (qj n m) _ _ _ _ h2
 |exit id=>exact⟨n+1,_,fr1,σ1,by rw[ev]; (try dsimp only);rw[h],hq⟩
 |ret=>exact⟨n+1,_,fr1,σ1,by rw[ev]; (try dsimp only);rw[h],hq⟩⟩
theorem OU{id:Nat}{ops:Array cd}:Wp E (.region id ops false) fr Z Q=uL E ops ops.toList fr Z (Q .normal):=propext ⟨λ⟨n,x,fr',σ',h,hq⟩=>by
 cases n with
 |zero=>cases h
 |succ n=>
  rw[ev]at h;simp only[ai,b9]at h;cases ha:gY E (ev E n) .no ops ops.toList fr Z with
  |none=>rw[ha]at h;cases h
  |some y=>rw[ha]at h;cases h;exact⟨n,_,_,ha,hq⟩,λ⟨n,fr1,σ1,h,hq⟩=>⟨n+1,_,fr1,σ1,by rw[ev];simp only[ai,b9];rw[h],hq⟩⟩
theorem Ln{id:Nat}{ops:Array cd}:Wp E (.region id ops true) fr Z Q=Sl E ops fr Z (Q .normal):=propext ⟨λ⟨n,x,fr',σ',h,hq⟩=>by
 cases n with
 |zero=>cases h
 |succ n=>
  rw[ev]at h;simp only[bf]at h;cases ha:cP E (ev E n) ops fr Z with
  |none=>rw[ha]at h;cases h
  |some y=>rw[ha]at h;cases h;exact⟨n,_,_,ha,hq⟩,λ⟨n,fr1,σ1,h,hq⟩=>⟨n+1,_,fr1,σ1,by rw[ev];simp only[bf];rw[h],hq⟩⟩
section
variable {ops:Array cd}{Q:Fr->Sg->Prop}
theorem M6:uL E ops [] fr Z Q=Q fr Z:=propext ⟨λ⟨n,fr',σ',h,hq⟩=>by rw[gY]at h;cases h;exact hq,λh=>⟨0,fr,Z,rfl,h⟩⟩
theorem wpOps_cons{o:cd}{l:List cd}:uL E ops (o::l) fr Z Q=if cE ops o fr=true then kZ E o.op fr Z (λv Z=>uL E ops l (cW fr o.dst v) Z Q) else uL E ops l (cW fr o.dst .undef) Z Q:=by
 by_cases hw:cE ops o fr=true
 ·rw[az hw];refine propext ⟨λ⟨n,fr',σ',h,hq⟩=>?_,λ⟨n,v,σ1,h,m,fr',σ',h2,hq⟩=>?_⟩
  ·rw[gY]at h;unfold bN at h;rw[az hw]at h;cases ho:lD E (ev E n) .no o.op fr Z with
   |none=>rw[ho]at h;cases h
   |some y=>rw[ho]at h;exact⟨n,y.1,y.2,ho,n,fr',σ',h,hq⟩
  ·refine⟨max n m,fr',σ',?_,hq⟩;rw[gY];unfold bN;rw[az hw,zM (nB E (pd n m)) h];exact tU (nB E (qj n m)) h2
 ·rw[an hw];refine propext ⟨λ⟨n,fr',σ',h,hq⟩=>?_,λ⟨n,fr',σ',h,hq⟩=>?_⟩
  ·rw[gY]at h;unfold bN at h;rw[an hw]at h;exact⟨n,fr',σ',h,hq⟩
  ·refine⟨n,fr',σ',?_,hq⟩;rw[gY];unfold bN;rw[an hw];exact h
end
section
variable {K:V->Sg->Prop}
def got(o:Option (V × Sg))(K:V->Sg->Prop):Prop:=match o with
 |some (v,Z)=>K v Z
 |none=>False
theorem Ab{v:V}:got (some (v,Z)) K=K v Z:=rfl
theorem b_{op:Op}{f:Fr->Sg->Option (V × Sg)}(h:comp E op=.plain f):kZ E op fr Z K=got (f fr Z) K:=by
 unfold kZ lD;rw[h]
 try dsimp only
 cases f fr Z with
 |none=>exact propext ⟨λ⟨_,_,_,h,_⟩=>(by cases h),λh=>h.elim⟩
 |some y=>exact propext ⟨λ⟨_,_,_,h,hk⟩=>(by cases h;exact hk),λh=>⟨0,_,_,rfl,h⟩⟩
end
theorem aB.of{f:Nat}{args:List V}{v:V}{σ':Sg}{K:V->Sg->Prop}(h:aB E f args Z λu Y=>u=v/\Y=σ'):aB E f args Z K=K v σ':=by
 obtain⟨n,u,Y,h,rfl,rfl⟩:=h;refine propext ⟨λ⟨m,w,ρ,h2,hk⟩=>?_,λhk=>⟨n,u,Y,h,hk⟩⟩;have a:=tX (nB E (pd n m)) h;rw[tX (nB E (qj n m)) h2]at a;cases a;exact hk
end
end
end Go.Ax
end
