/- Part 14 of the proof. -/
import Derived.Test.YtmhchflckonklaaGreatDoorY
import Derived.Test.YtmhchflckonklaaGreatDoorZ13
import Derived.Sort.MapsRangeIn
import Derived.RangeFuncFrom
import Derived.RangeFuncGives
import Derived.Test.YtmhchflckonklaaGreatDoorZ3
import Derived.Shelf.SlIter.Collect
import Derived.Shelf.AbstractIn
import Derived.Shelf.SortM.SortNone
import Derived.Shelf.SlSortCmp.NoneTotal
import Derived.Ground.SlsfProg
import Derived.Ground.SlgmProg
import Derived.Test.YtmhchflckonklaaGreatDoorProg
import Derived.Test.YtmhchflckonklaaGreatDoorZ2
import Derived.Sort.OwnSorted
import Derived.Shelf.SortM.Plain
import Derived.Test.YtmhchflckonklaaGreatDoorZ4
import Derived.Test.YtmhchflckonklaaGreatDoorZ5
import Derived.Test.YtmhchflckonklaaGreatDoorZ6
import Derived.Test.YtmhchflckonklaaGreatDoorZ7
import Derived.Test.YtmhchflckonklaaGreatDoorZ8
import Derived.Test.YtmhchflckonklaaGreatDoorZ9
import Derived.Test.YtmhchflckonklaaGreatDoorZ10
import Derived.Test.YtmhchflckonklaaGreatDoorZ11
import Derived.Test.YtmhchflckonklaaGreatDoorZ12
import Derived.Test.YtmhchflckonklaaGreatDoorZ0
set_option maxHeartbeats 8000000
set_option linter.unusedVariables false
open Nat (reduceEqDiff reduceLT reduceAdd reduceSub)
section
namespace Go.Ax
open Go Go.Proofs
section
section
variable {E:Env}
theorem reg0 {n:Nat}{fr:Fr}{Z:Sg}{Q:X->Fr->Sg->Prop}(hn:fr.n=119) (q:∀fr':Fr,fr'.n=119->(∀t,t<4->fr'.get t=fr.get t)->Q .normal fr' Z):eY E (n+1) (bk [0]) fr Z Q:=by
 simp only[bk,BI,aA,Tryz.f155,an]
 simp only[dJ,cQ,dY,bV,aX,ofValue,bL,bh,eK,bJ,jF,comp,bw]
 refine q _ ?_ ?_
 ·simp only[Fr.bA,hn]
 ·exact λt ht=>by simp only[Fr.aH];repeat (rw[az (by omega)])
theorem reg1 (h196:E.ty 206=some { kd:=.map 9 3,size:=1,bytes:=8,zero:=.b_ })(h111:E.ty 101=some { kd:=.map 9 24,size:=1,bytes:=8,zero:=.b_ })(h44:E.ty 24=some { kd:=.sl 9,size:=1,bytes:=24,zero:=.aF })
  (h9:E.ty 9=some { kd:=.str,size:=1,bytes:=16,zero:=.str [] })(h3:E.ty 3=some { kd:=.int .i64,size:=1,bytes:=8,zero:=.int .i64 0 })(h4:E.ty 4=some { kd:=.bool,size:=1,bytes:=1,zero:=.bool false })
  {n:Nat}{fr:Fr}{f:List Nat}{Q:X->Fr->Sg->Prop}(hn:fr.n=119) (g1:fr.get 1=some (.str f)) (q:∀fr':Fr,fr'.n=119->fr'.get 5=some (.ref 1 0)->(∀t,t<4->fr'.get t=fr.get t)->Q .normal fr' [.map [(.str f,.int .i64 ((0:Nat):Int))],.cells 206 [.mp 0] true]):eY E (n+1) (bk [1,0]) fr [] Q:=by
 have hm:kI jQ (.str f) (.int .i64 0) []=some [(.str f,.int .i64 ((0:Nat):Int))]:=rfl
 simp only[bk,BI,aA,Tryz.f155,an]
 simp only[dJ,cQ,dY,bV,aX,ofValue,bL,bh,eK,bJ,jF,comp,aU,dW,jW,sE,mC,pU,bw,Fr.aH,Fr.bA,hn,cg,cw,reduceEqDiff,reduceLT,cr,ay,h196,h9,storeAt,eI,cE h9,mapUpdate,fI,V.aZ,dh,iu,ai,qd,BEq.rfl,decide_true,af,b8,V.cells,setCells,jy,cq,nf,gz,jq,nh,dj,ig,js,ae,ot,g1,hm,dy]
 refine q _ ?_ ?_ ?_
 ·simp only[Fr.bA,hn]
 ·simp only[Fr.aH,Fr.bA,hn,reduceEqDiff,reduceLT,cr,bh,ay]
 ·exact λt ht=>by simp only[Fr.aH];repeat (rw[az (by omega)])
theorem reg2 {n:Nat}{fr:Fr}{Z:Sg}{Q:X->Fr->Sg->Prop}(hn:fr.n=119) (q:∀fr':Fr,fr'.n=119->fr'.get 6=some (.bool true)->(∀t,t<6->fr'.get t=fr.get t)->Q .normal fr' Z):eY E (n+1) (bk [1,1,0,0]) fr Z Q:=by
 simp only[bk,BI,aA,Tryz.f155,an]
 simp only[dJ,cQ,dY,bV,aX,ofValue,bL,bh,eK,bJ,jF,comp,bw]
 refine q _ ?_ ?_ ?_
 ·simp only[Fr.bA,hn]
 ·simp only[Fr.aH,hn,reduceLT,cr,bh]
 ·exact λt ht=>by simp only[Fr.aH];repeat (rw[az (by omega)])
theorem XJ (h196:E.ty 206=some { kd:=.map 9 3,size:=1,bytes:=8,zero:=.b_ })(h111:E.ty 101=some { kd:=.map 9 24,size:=1,bytes:=8,zero:=.b_ })(h44:E.ty 24=some { kd:=.sl 9,size:=1,bytes:=24,zero:=.aF })
  (h9:E.ty 9=some { kd:=.str,size:=1,bytes:=16,zero:=.str [] })(h3:E.ty 3=some { kd:=.int .i64,size:=1,bytes:=8,zero:=.int .i64 0 })(h4:E.ty 4=some { kd:=.bool,size:=1,bytes:=1,zero:=.bool false })
  {n:Nat}{fr:Fr}{Z:Sg}{Q:X->Fr->Sg->Prop}(hn:fr.n=119) (q:∀fr':Fr,fr'.n=119->fr'.get 15=some (.ref Z.length 0)->(∀t,t<15->fr'.get t=fr.get t)->Q .normal fr' (Z++[.cells 3 [.int .i64 (sW none)] true])):eY E (n+1) (bk [1,1,1,0]) fr Z Q:=by
 have h1:(Z++[O.cells 3 [.int .i64 0] true])[Z.length]?=some (.cells 3 [.int .i64 0] true):=by simp
 have h2:∀x,(Z++[O.cells 3 [.int .i64 0] true]).set Z.length x=Z++[x]:=λx=>by simp
 simp only[bk,BI,aA,Tryz.f155,an]
 simp only[dJ,cQ,dY,bV,aX,ofValue,bL,bh,eK,bJ,jF,comp,bw,hn,sE,h3,V.cells,jW,Fr.aH,reduceLT,cr,bh,storeAt,h1,h2,af,b8,BEq.rfl,ig,js,V.aZ,ki,dj,ae,decide_true,setCells,jy,cq,nf,ot,gz]
 refine q _ ?_ ?_ ?_
 ·simp only[Fr.bA,hn]
 ·simp only[Fr.aH,hn,reduceLT,cr,bh]
 ·exact λt ht=>by simp only[Fr.aH];repeat (rw[az (by omega)])
theorem XI (h196:E.ty 206=some { kd:=.map 9 3,size:=1,bytes:=8,zero:=.b_ })(h111:E.ty 101=some { kd:=.map 9 24,size:=1,bytes:=8,zero:=.b_ })(h44:E.ty 24=some { kd:=.sl 9,size:=1,bytes:=24,zero:=.aF })
  (h9:E.ty 9=some { kd:=.str,size:=1,bytes:=16,zero:=.str [] })(h3:E.ty 3=some { kd:=.int .i64,size:=1,bytes:=8,zero:=.int .i64 0 })(h4:E.ty 4=some { kd:=.bool,size:=1,bytes:=1,zero:=.bool false })
  {n:Nat}{fr:Fr}{Z:Sg}{g:Bool}{es:List (V × V)}(hbk:gP es) {f:List Nat}{Q:X->Fr->Sg->Prop}(hn:fr.n=119) (g0:fr.get 0=some (.imp g es)) (g1:fr.get 1=some (.str f))
  (q:∀fr':Fr,fr'.n=119->fr'.get 70=some (valOf es f)->fr'.get 71=some (.int .i64 ((cC es f).length:Int))->fr'.get 72=some (.int .i64 ((0:Nat):Int))->(∀t,t<17->fr'.get t=fr.get t)->Q .normal fr' Z):eY E (n+1) (bk [1,1,1,1,0,0]) fr Z Q:=by
 obtain⟨r,hr1,hr2⟩:=Dm (x:=f) hbk
 have hln:lenOf E Z 24 (valOf es f)=some (cC es f).length:=by
  rcases xN (x:=f) hbk with⟨h1,h2⟩ | ⟨g,full,h1⟩
  ·rw[h1,h2];simp only[lenOf,h44,b8]
  ·rw[h1];simp only[lenOf,h44,bg]
 simp only[bk,BI,aA,Tryz.f155,an]
 cases r with
 |none=>
  simp only[Option.getD_none]at hr2
  rw[<- hr2]at hln
  simp only[dJ,cQ,dY,bV,aX,fD,ofValue,bL,bh,eK,bJ,jF,comp,aU,d_,eP,builtin,bw,Fr.aH,Fr.bA,hn,cg,cz,reduceEqDiff,reduceLT,cr,ay,h111,h44,h9,lookup,eI,entriesOf,cE h9,dh,ai,gq,V.cells,setCells,g0,g1,hr1,hln]
  refine q _ ?_ ?_ ?_ ?_ ?_
  ·simp only[Fr.bA,hn]
  ·simp only[Fr.aH,Fr.bA,hn,reduceEqDiff,reduceLT,cr,bh,ay,hr2]
  ·simp only[Fr.aH,Fr.bA,hn,reduceEqDiff,reduceLT,cr,bh,ay]
  ·simp only[Fr.aH,Fr.bA,hn,reduceEqDiff,reduceLT,cr,bh,ay];rfl
  ·exact λt ht=>by simp only[Fr.aH];repeat (rw[az (by omega)])
 |some v=>
  simp only[an]at hr2
  rw[<- hr2]at hln
  simp only[dJ,cQ,dY,bV,aX,fD,ofValue,bL,bh,eK,bJ,jF,comp,aU,d_,eP,builtin,bw,Fr.aH,Fr.bA,hn,cg,cz,reduceEqDiff,reduceLT,cr,ay,h111,h44,h9,lookup,eI,entriesOf,cE h9,dh,ai,gq,V.cells,setCells,g0,g1,hr1,hln]
  refine q _ ?_ ?_ ?_ ?_ ?_
  ·simp only[Fr.bA,hn]
  ·simp only[Fr.aH,Fr.bA,hn,reduceEqDiff,reduceLT,cr,bh,ay,hr2]
  ·simp only[Fr.aH,Fr.bA,hn,reduceEqDiff,reduceLT,cr,bh,ay]
  ·simp only[Fr.aH,Fr.bA,hn,reduceEqDiff,reduceLT,cr,bh,ay];rfl
  ·exact λt ht=>by simp only[Fr.aH];repeat (rw[az (by omega)])
theorem XH (h196:E.ty 206=some { kd:=.map 9 3,size:=1,bytes:=8,zero:=.b_ })(h111:E.ty 101=some { kd:=.map 9 24,size:=1,bytes:=8,zero:=.b_ })(h44:E.ty 24=some { kd:=.sl 9,size:=1,bytes:=24,zero:=.aF })
  (h9:E.ty 9=some { kd:=.str,size:=1,bytes:=16,zero:=.str [] })(h3:E.ty 3=some { kd:=.int .i64,size:=1,bytes:=8,zero:=.int .i64 0 })(h4:E.ty 4=some { kd:=.bool,size:=1,bytes:=1,zero:=.bool false })
  {n:Nat}{fr:Fr}{Z:Sg}{B:Nat}{acc:Option Nat} (sB:Z[B]?=some (.cells 3 [.int .i64 (sW acc)] true)) {Q:X->Fr->Sg->Prop}(hn:fr.n=119) (g15:fr.get 15=some (.ref B 0))
  (q0:acc=none->∀fr':Fr,fr'.get 4=some .aF->Q .ret fr' Z) (q1:∀b,acc=some b->∀fr':Fr,fr'.n=119->(∀t,t<94->fr'.get t=fr.get t)->Q .normal fr' Z):eY E (n+5) (bk [1,1,1,1,1,0]) fr Z Q:=by
 simp only[bk,BI,aA,Tryz.f155,an]
 cases acc with
 |none=>
  have hc:decide (sW none<0)=true:=by decide
  simp only[fG,FA,cT,fH,dJ,cQ,dY,bV,aX,ofValue,bL,bh,eK,bJ,jF,comp,iN,fB,bw,Fr.aH,Fr.bA,hn,cg,reduceEqDiff,reduceLT,cr,ay,h3,loadAt,isAgg,bin,arith,ai,jD,g15,sB,hc]
  refine q0 rfl _ ?_
  simp only[Fr.aH,Fr.bA,hn,reduceEqDiff,reduceLT,cr,bh,ay]
 |some b=>
  have hc:decide (sW (some b)<0)=false:=AS (by simp only[sW];omega)
  simp only[fG,FA,cT,fH,dJ,cQ,dY,bV,aX,ofValue,bL,bh,eK,bJ,jF,comp,iN,fB,bw,Fr.aH,Fr.bA,hn,cg,reduceEqDiff,reduceLT,cr,ay,h3,loadAt,isAgg,bin,arith,ai,jD,g15,sB,hc]
  refine q1 b rfl _ ?_ ?_
  ·simp only[Fr.bA,hn]
  ·exact λt ht=>by simp only[Fr.aH];repeat (rw[az (by omega)])
theorem XG (h196:E.ty 206=some { kd:=.map 9 3,size:=1,bytes:=8,zero:=.b_ })(h111:E.ty 101=some { kd:=.map 9 24,size:=1,bytes:=8,zero:=.b_ })(h44:E.ty 24=some { kd:=.sl 9,size:=1,bytes:=24,zero:=.aF })
  (h9:E.ty 9=some { kd:=.str,size:=1,bytes:=16,zero:=.str [] })(h3:E.ty 3=some { kd:=.int .i64,size:=1,bytes:=8,zero:=.int .i64 0 })(h4:E.ty 4=some { kd:=.bool,size:=1,bytes:=1,zero:=.bool false })
  {n:Nat}{fr:Fr}{Z:Sg}{f:List Nat}{Q:X->Fr->Sg->Prop}(hn:fr.n=119) (g1:fr.get 1=some (.str f)) (q:∀fr':Fr,fr'.n=119->fr'.get 20=some (.sl Z.length 0 1 none)->(∀t,t<20->fr'.get t=fr.get t)->Q .normal fr' (Z++[.cells 9 [.str f] true])):eY E (n+1) (bk [1,1,1,1,1,1,0]) fr Z Q:=by
 have hl:=Lf h196 h111 h44 h9 h3 h4 (fr:=fr.put 96 (.str f)) (Z:=Z) (x:=96) (s:=f) (by simp only[aX,Fr.aH,hn,reduceLT,cr,bh])
 simp only[bk,BI,aA,Tryz.f155,an]
 simp only[dJ,cQ,dY,bV,aX,bh,eK,bJ,jF,comp,Fz.lits,bw,Fr.aH,Fr.bA,hn,reduceEqDiff,reduceLT,cr,ay,ai,g1,hl]
 refine q _ ?_ ?_ ?_
 ·simp only[Fr.bA,hn]
 ·simp only[Fr.aH,Fr.bA,hn,reduceEqDiff,reduceLT,cr,bh,ay]
 ·exact λt ht=>by simp only[Fr.aH];repeat (rw[az (by omega)])
theorem XF {n:Nat}{fr:Fr}{Z:Sg}{f:List Nat}{Q:X->Fr->Sg->Prop}(hn:fr.n=119) (g1:fr.get 1=some (.str f)) (q:∀fr':Fr,fr'.n=119->fr'.get 21=some (.str f)->(∀t,t<21->fr'.get t=fr.get t)->Q .normal fr' Z):eY E (n+1) (bk [1,1,1,1,1,1,1,0,0]) fr Z Q:=by
 simp only[bk,BI,aA,Tryz.f155,an]
 simp only[dJ,cQ,dY,bV,aX,bh,eK,bJ,jF,comp,bw,hn,g1,Fr.aH,reduceLT,cr]
 refine q _ ?_ ?_ ?_
 ·simp only[Fr.bA,hn]
 ·simp only[Fr.aH,Fr.bA,hn,reduceEqDiff,reduceLT,cr,bh,ay]
 ·exact λt ht=>by simp only[Fr.aH];repeat (rw[az (by omega)])
theorem XE {n:Nat}{fr:Fr}{Z:Sg}{v:V}{Q:X->Fr->Sg->Prop}(hn:fr.n=119) (g20:fr.get 20=some v) (q:∀fr':Fr,fr'.get 4=some v->Q .ret fr' Z):eY E (n+3) (bk [1,1,1,1,1,1,1,1]) fr Z Q:=by
 simp only[bk,BI,aA,Tryz.f155,an]
 simp only[cT,FA,dJ,cQ,dY,bV,aX,bh,eK,bJ,jF,comp,bw,hn,g20,Fr.aH,reduceLT,cr]
 refine q _ ?_
 simp only[Fr.aH,Fr.bA,hn,reduceEqDiff,reduceLT,cr,bh,ay]
theorem Mv (h196:E.ty 206=some { kd:=.map 9 3,size:=1,bytes:=8,zero:=.b_ })(h111:E.ty 101=some { kd:=.map 9 24,size:=1,bytes:=8,zero:=.b_ })(h44:E.ty 24=some { kd:=.sl 9,size:=1,bytes:=24,zero:=.aF })
  (h9:E.ty 9=some { kd:=.str,size:=1,bytes:=16,zero:=.str [] })(h3:E.ty 3=some { kd:=.int .i64,size:=1,bytes:=8,zero:=.int .i64 0 })(h4:E.ty 4=some { kd:=.bool,size:=1,bytes:=1,zero:=.bool false }) (f1:E.hspec 74=none) (f2:E.spec 74=none) (f3:E.fn 74=some (aA Tryz.f74)) (f4:E.mode 74=.fK) (f5:E.hspec 186=none) (f6:E.spec 186=none) (f7:E.fn 186=some (aA Tryz.f186)) (f8:E.mode 186=.shared)
  {es:List (V × V)}{f:List Nat}{g:Bool}(hbk:gP es)(hnd:(es.map ks).Nodup) {fe:List (V × V)}(hok:mV fe)(hfar:∀x,bD fe x=tN es f x) {B:Nat}(hB:2<=B) {K:Nat}(hK:K<=4000000000000000000)(hl:∀x,(cC es x).length<=K) (N:Nat) :
  ∀(b:Nat) (at_:List Nat) (cs:List V) (ex:Bool) (C:Nat) (fr:Fr) (Z:Sg),b<=1000000->(b=0\/∃nx∈cC es at_,tN es f nx=some b)->cs.length+b<=2000000->fr.n=119->fr.get 0=some (.imp g es)->fr.get 5=some (.ref 1 0)->fr.get 15=some (.ref B 0)->fr.get 20=some (.sl C 0 cs.length none)->fr.get 21=some (.str at_) ->
   Z[0]?=some (.map fe)->Z[1]?=some (.cells 206 [.mp 0] true)->Z[B]?=some (.cells 3 [.int .i64 (b:Int)] true)->Z[C]?=some (.cells 9 cs ex)->B≠C->2<=C ->
   eY E (N+K+b+71) (.loop (bk [1,1,1,1,1,1,1,0,1,2,2])) fr Z λx fr' σ'=>x=.exit 8/\fr'.n=119/\∃C',fr'.get 20=some (.sl C' 0 (cs++(tV es (dX es es.length [f]) at_ b).map V.str).length none)/\σ'[C']?=some (.cells 9 (cs++(tV es (dX es es.length [f]) at_ b).map V.str) (ex&&Nat.beq b 0)):=by
 intro b
 induction b with
 |zero=>
  intro at_ cs ex C fr Z hb hex hln hn g0 g5 g15 g20 g21 s0 s1 sB sC hBC hC
  show eY E ((N+K+70)+1) _ _ _ _
  rw[nP]
  refine CL h196 h111 h44 h9 h3 h4 f1 f2 f3 f4 f5 f6 f7 f8 hbk hok hn g0 g5 g15 g20 g21 s0 s1 sB sC hBC hB hC (by omega) hb hK (hl at_) N (λ_ fr' k1 k2=>?_) (λh=>absurd h (b9 _))
  refine⟨rfl,k1,C,?_,?_⟩
  ·rw[k2 20 (by omega)]
   simpa [tV]using g20
  ·simpa [tV]using sC
 |succ b ih=>
  intro at_ cs ex C fr Z hb hex hln hn g0 g5 g15 g20 g21 s0 s1 sB sC hBC hC
  have hf0:N+K+(b+1)+71=((N+b+1)+K+70)+1:=by omega
  rw[hf0,nP]
  refine CL h196 h111 h44 h9 h3 h4 f1 f2 f3 f4 f5 f6 f7 f8 hbk hok hn g0 g5 g15 g20 g21 s0 s1 sB sC hBC hB hC (by omega) hb hK (hl at_) (N+b+1) (λh=>by omega) (λ_=>?_)
  have hex':∃nx∈cC es at_,gD nx (dX es es.length [f])=some (b+1):=hex.resolve_left (by omega)
  obtain⟨idx,a,h1,h2,h3',h4'⟩:=AR _ _ _ hex'
  refine⟨idx,a,h1,by rw[hfar];exact h3',λj x hj hx=>by rw[hfar];exact h4' j x hj hx,?_⟩
  intro fr' σ' C' k1 k2 k3 k4 t0 t1 tB tC hBC' hC'
  have hway:tV es (dX es es.length [f]) at_ (b+1)=a::tV es (dX es es.length [f]) a b:=by simp only[tV,h2]
  have hex2:b=0\/∃nx∈cC es a,tN es f nx=some b:=.inr (M5 hbk hnd h3')
  have:=ih a (cs++[.str a]) false C' fr' σ' (by omega) hex2 (by simp;omega) k1 (by rw[k2 0 (by omega)];exact g0) (by rw[k2 5 (by omega)];exact g5) (by rw[k2 15 (by omega)];exact g15) k3 k4 t0 t1 (by simpa using tB) tC hBC' hC'
  rw[show (N+b+1)+K+70=N+K+b+71 by omega]
  refine eO _ this ?_
  rintro x fr2 σ2 ⟨rfl,b1,C2,b2,b3⟩
  refine⟨rfl,b1,C2,?_,?_⟩
  ·rw[hway];simpa using b2
  ·rw[hway]
   have e:(ex&&Nat.beq (b+1) 0)=false:=by cases ex <;> rfl
   rw[e]
   simpa using b3
theorem pF:∀(cs:List V),rows 1 cs.length cs=cs.map λc=>[c]
 | []=>rfl
 |c::cs=>by simp[rows,pF cs]
theorem kD (h196:E.ty 206=some { kd:=.map 9 3,size:=1,bytes:=8,zero:=.b_ })(h111:E.ty 101=some { kd:=.map 9 24,size:=1,bytes:=8,zero:=.b_ })(h44:E.ty 24=some { kd:=.sl 9,size:=1,bytes:=24,zero:=.aF })
  (h9:E.ty 9=some { kd:=.str,size:=1,bytes:=16,zero:=.str [] })(h3:E.ty 3=some { kd:=.int .i64,size:=1,bytes:=8,zero:=.int .i64 0 })(h4:E.ty 4=some { kd:=.bool,size:=1,bytes:=1,zero:=.bool false })
  {Z:Sg}{C:Nat}{l:List (List Nat)}{ex:Bool}(hC:Z[C]?=some (.cells 9 (l.map V.str) ex)):cG Z E.ty false (.sl C 0 (l.map V.str).length none)=some (.bS false (l.map λs=>[V.str s]) ex):=by
 have hs:bG Z E.ty false 12 (.sl C 0 (l.map V.str).length none)=some (.bS false (l.map λs=>[V.str s]) ex):=by
  rw[bG]
  simp only[hC,h9,dj,mj,ae,bh,fg,List.take_length]
  rw[vE]
  rotate_left
  ·intro x hx
   obtain⟨s,_,rfl⟩:=cm.1 hx
   simp[bG,bT]
  simp only[pF,ku,Nat.lt_add_one,decide_true,ki,BEq.rfl]
  rfl
 simp only[cG,aT,aT.one,dN,hs,bT,kz,Bool.or_true,bh]
theorem Iy (h196:E.ty 206=some { kd:=.map 9 3,size:=1,bytes:=8,zero:=.b_ })(h111:E.ty 101=some { kd:=.map 9 24,size:=1,bytes:=8,zero:=.b_ })(h44:E.ty 24=some { kd:=.sl 9,size:=1,bytes:=24,zero:=.aF })
  (h9:E.ty 9=some { kd:=.str,size:=1,bytes:=16,zero:=.str [] })(h3:E.ty 3=some { kd:=.int .i64,size:=1,bytes:=8,zero:=.int .i64 0 })(h4:E.ty 4=some { kd:=.bool,size:=1,bytes:=1,zero:=.bool false }) (f1:E.hspec 74=none) (f2:E.spec 74=none) (f3:E.fn 74=some (aA Tryz.f74)) (f4:E.mode 74=.fK) (f5:E.hspec 186=none) (f6:E.spec 186=none) (f7:E.fn 186=some (aA Tryz.f186)) (f8:E.mode 186=.shared)
  {es:List (V × V)}{f:List Nat}{g:Bool}(hbk:gP es)(hnd:(es.map ks).Nodup)(hes:es.length<=1000000) {K:Nat}(hK:K<=1000000)(hKl:∀e∈es,(iX e.2).length<=K):∃n,BW E n (aA Tryz.f155) [.imp g es,.str f] [] λv Z=>cG Z E.ty false v=some (oE es f):=by
 have hnl:∀x,(cC es x).length<=K:=by
  intro x
  clear hnd hes
  induction es with
  |nil=>simp[cC]
  |cons e es ih=>
   obtain⟨⟨q,hq⟩,_⟩:=hbk e (By ..)
   obtain⟨k',v'⟩:=e
   simp only at hq
   subst hq
   simp only[cC]
   cases seq q x with
   |true=>exact hKl _ (By ..)
   |false=>exact ih hbk.tail λe he=>hKl e (No _ he)
 obtain⟨fr0,hf0,hn0,hg0⟩:=Fr.Da (n:=(aA Tryz.f155).ntmps) (vs:=[.imp g es,.str f]) (show 2<=119 by decide)
 have hn0:fr0.n=119:=hn0
 have i0:=hg0 0 _ rfl
 have i1:=hg0 1 _ rfl
 have e1:(aA Tryz.f155).code=.seq (bk [0]) (.seq (bk [1,0]) (.seq (.seq (bk [1,1,0,0]) (.block 0 (.loop (bk [1,1,0,1,2,2])))) (.seq (bk [1,1,1,0]) (.seq (.seq (bk [1,1,1,1,0,0]) (.block 6 (.loop (bk [1,1,1,1,0,1,2,2])))) (.seq (bk [1,1,1,1,1,0]) (.seq (bk [1,1,1,1,1,1,0]) (.seq (.seq (bk [1,1,1,1,1,1,1,0,0]) (.block 8 (.loop (bk [1,1,1,1,1,1,1,0,1,2,2])))) (bk [1,1,1,1,1,1,1,1])))))))):=rfl
 have hF0:GG es f [(.str f,.int .i64 ((0:Nat):Int))]:=by
  have hfar:∀x,bD [(.str f,.int .i64 ((0:Nat):Int))] x=if x=f then some 0 else none:=by
   intro x
   simp only[bD]
   cases h:seq f x with
   |true=>rw[kE]at h;simp[h]
   |false=>rw[kF]at h;simp[h.symm]
  refine⟨λe he=>?_,by rw[hfar,bf rfl],λx k hx=>?_,λx k hx=>?_,by simp,λk hk=>?_⟩
  ·simp only[cj]at he
   exact⟨f,0,he⟩
  ·rw[hfar]at hx
   split at hx
   ·rename_i e;injection hx with hx;subst hx e;exact .zero
   ·cases hx
  ·rw[hfar]at hx
   split at hx
   ·injection hx with hx;subst hx;simp
   ·cases hx
  ·simp only[bl,List.map_nil,cj]at hk
   subst hk
   exact By ..
 obtain⟨m,hm⟩:∃m,Mt es f [(.str f,.int .i64 ((0:Nat):Int))]<m:=⟨_,je _⟩
 obtain⟨S,hS⟩:∃S,S=K+es.length+m+200:=⟨_,rfl⟩
 refine⟨S+30,fr0,hf0,?_⟩
 rw[e1]
 show eY E ((S+29)+1) _ _ _ _
 rw[cT]
 refine reg0 (n:=S+28) hn0 (λfr1 a1 a2=>?_)
 show eY E ((S+28)+1) _ _ _ _
 rw[cT]
 refine reg1 h196 h111 h44 h9 h3 h4 (n:=S+27) a1 (by rw[a2 1 (by omega)];exact i1) (λfr2 b1 b2 b3=>?_)
 show eY E ((S+27)+1) _ _ _ _
 rw[cT]
 show eY E ((S+26)+1) _ _ _ _
 rw[cT]
 refine reg2 (n:=S+25) b1 (λfr3 c1 c2 c3=>?_)
 show eY E ((S+25)+1) _ _ _ _
 rw[cW]
 obtain⟨N1,hN1⟩:∃N1,S+25=N1+K+es.length+m+90:=⟨135,by omega⟩
 rw[hN1]
 refine eO _ (JA h196 h111 h44 h9 h3 h4 hes hbk hnd (by omega:K<=4000000000000000000) hKl N1 m [] fr3 _ true (λ_=>hm) (λh=>by cases h) hF0 c1 (by rw[c3 0 (by omega),b3 0 (by omega),a2 0 (by omega)];exact i0) c2 (by rw[c3 5 (by omega)];exact b2)) ?_
 rintro x fr4 σ4 ⟨rfl,fe,its,hF,hC,rfl,d1,d2⟩
 simp only[bh]
 have hdist:∀x,bD fe x=tN es f x:=λx=>(hF.dist hbk hnd (λy nx hy=>by
  obtain⟨v,h1,h2⟩:=CM hbk hy
  exact hC _ h1 y rfl nx h2) x).symm
 show eY E ((S+26)+1) _ _ _ _
 rw[cT]
 have j0:fr4.get 0=some (.imp g es):=by rw[d2 0 (by omega),c3 0 (by omega),b3 0 (by omega),a2 0 (by omega)];exact i0
 have j1:fr4.get 1=some (.str f):=by rw[d2 1 (by omega),c3 1 (by omega),b3 1 (by omega),a2 1 (by omega)];exact i1
 have j5:fr4.get 5=some (.ref 1 0):=by rw[d2 5 (by omega),c3 5 (by omega)];exact b2
 refine XJ h196 h111 h44 h9 h3 h4 (n:=S+25) d1 (λfr5 p1 p2 p3=>?_)
 show eY E ((S+25)+1) _ _ _ _
 rw[cT]
 show eY E ((S+24)+1) _ _ _ _
 rw[cT]
 refine XI h196 h111 h44 h9 h3 h4 (n:=S+23) hbk p1 (by rw[p3 0 (by omega)];exact j0) (by rw[p3 1 (by omega)];exact j1) (λfr6 q1 q2 q3 q4 q5=>?_)
 show eY E ((S+23)+1) _ _ _ _
 rw[cW]
 have hnlf:=hnl f
 obtain⟨N2,hN2⟩:∃N2,S+23=N2+(cC es f).length+21:=⟨S+2-(cC es f).length,by omega⟩
 rw[hN2]
 refine eO _ (Ni h196 h111 h44 h9 h3 h4 (xN (x:=f) hbk) (B:=its.length+2) (by omega) hF.ok (by omega) N2 (cC es f).length 0 fr6 _ none (by omega) rfl q1 q2 q3 q4 (by rw[q5 5 (by omega),p3 5 (by omega)];exact j5) (by rw[q5 15 (by omega)];exact p2) rfl rfl (by simp)) ?_
 rintro x fr7 σ7 ⟨rfl,r1,r2,s0,s1,sB⟩
 simp only[bh]
 show eY E ((S+24)+1) _ _ _ _
 rw[cT]
 have hbest:(cC es f).foldl (eU (bD fe)) none=i_ (dX es es.length [f]) (cC es f):=by
  have:=Fc (dX es es.length [f]) (cC es f) none
  rw[show (bD fe)=λx=>gD x (dX es es.length [f]) from funext hdist,this]
  rfl
 rw[hbest]at sB
 have k0:fr7.get 0=some (.imp g es):=by rw[r2 0 (by omega),q5 0 (by omega),p3 0 (by omega)];exact j0
 have k1:fr7.get 1=some (.str f):=by rw[r2 1 (by omega),q5 1 (by omega),p3 1 (by omega)];exact j1
 have k5:fr7.get 5=some (.ref 1 0):=by rw[r2 5 (by omega),q5 5 (by omega),p3 5 (by omega)];exact j5
 have k15:fr7.get 15=some (.ref (its.length+2) 0):=by rw[r2 15 (by omega),q5 15 (by omega)];exact p2
 show eY E ((S+19)+5) _ _ _ _
 refine XH h196 h111 h44 h9 h3 h4 sB r1 k15 (λhnone fr8 h8=>?_) (λb hsome fr8 u1 u2=>?_)
 ·refine⟨.inr rfl,[.aF],by simp only[aA,Tryz.f155,results,h8],?_⟩
  simp only[oE,hnone]
  simp[cG,aT,aT.one,dN,bG,bT]
 ·show eY E ((S+23)+1) _ _ _ _
  rw[cT]
  refine XG h196 h111 h44 h9 h3 h4 (n:=S+22) u1 (by rw[u2 1 (by omega)];exact k1) (λfr9 v1 v2 v3=>?_)
  show eY E ((S+22)+1) _ _ _ _
  rw[cT]
  show eY E ((S+21)+1) _ _ _ _
  rw[cT]
  refine XF (n:=S+20) v1 (by rw[v3 1 (by omega),u2 1 (by omega)];exact k1) (λfra w1 w2 w3=>?_)
  show eY E ((S+20)+1) _ _ _ _
  rw[cW]
  rw[hsome]at sB
  obtain⟨nb,nb1,nb2⟩:=zL _ _ _ hsome
  have hbl:b<=es.length:=((lM hbk hnd).1 (show tN es f nb=some b from nb2)).1
  obtain⟨N3,hN3⟩:∃N3,S+20=N3+K+b+71:=⟨S+20-K-b-71,by omega⟩
  rw[hN3]
  have hBl:=(AI.1 sB).1
  have left:∀j o,σ7[j]?=some o->(σ7++[O.cells 9 [.str f] true])[j]?=some o:=λj o ho=>by
   rw[aq (AI.1 ho).1];exact ho
  refine eO _ (Mv h196 h111 h44 h9 h3 h4 f1 f2 f3 f4 f5 f6 f7 f8 hbk hnd hF.ok hdist (B:=its.length+2) (by omega) (by omega:K<=4000000000000000000) hnl N3 b f [.str f] true σ7.length fra _ (by omega) (.inr ⟨nb,nb1,nb2⟩) (by simp;omega) w1 (by rw[w3 0 (by omega),v3 0 (by omega),u2 0 (by omega)];exact k0) (by rw[w3 5 (by omega),v3 5 (by omega),u2 5 (by omega)];exact k5) (by rw[w3 15 (by omega),v3 15 (by omega),u2 15 (by omega)];exact k15) (by rw[w3 20 (by omega)];exact v2) w2 (left _ _ s0) (left _ _ s1) (left _ _ sB) (by simp) (by omega) (by omega)) ?_
  rintro x frb σb ⟨rfl,y1,C',y2,y3⟩
  simp only[bh]
  show eY E ((S+19)+3) _ _ _ _
  refine XE y1 y2 (λfrc z1=>?_)
  have e2:[V.str f]++(tV es (dX es es.length [f]) f b).map V.str=(f::tV es (dX es es.length [f]) f b).map V.str:=rfl
  rw[e2]at y3 z1
  refine⟨.inr rfl,[_],by simp only[aA,Tryz.f155,results,z1];rfl,?_⟩
  have:=kD h196 h111 h44 h9 h3 h4 y3
  simp only[oE,hsome]
  simpa using this
theorem G0 (he:dF Tryz.prog E)(hfs:nZ Tryz.prog E)(hmix:Tryz.prog.follows .mixedOrders=true)(hF:E.fn 155=some (aA Tryz.f155))(h196:E.ty 206=some { kd:=.map 9 3,size:=1,bytes:=8,zero:=.b_ })(h111:E.ty 101=some { kd:=.map 9 24,size:=1,bytes:=8,zero:=.b_ })(h44:E.ty 24=some { kd:=.sl 9,size:=1,bytes:=24,zero:=.aF })
  (h9:E.ty 9=some { kd:=.str,size:=1,bytes:=16,zero:=.str [] })(h3:E.ty 3=some { kd:=.int .i64,size:=1,bytes:=8,zero:=.int .i64 0 })(h4:E.ty 4=some { kd:=.bool,size:=1,bytes:=1,zero:=.bool false }) (f1:E.hspec 74=none) (f2:E.spec 74=none) (f3:E.fn 74=some (aA Tryz.f74)) (f4:E.mode 74=.fK) (f5:E.hspec 186=none) (f6:E.spec 186=none) (f7:E.fn 186=some (aA Tryz.f186)) (f8:E.mode 186=.shared):gO Tryz.prog E 155 pB:=by
 refine FG he hfs hmix hF ?_
 intro vs v h
 unfold pB at h
 split at h
 case h_2=>cases h
 rename_i g es f
 split at h
 case h_2=>cases h
 rename_i h1 h2 hlen
 injection h with h;subst h
 rw[Nat.ble_eq]at hlen
 have hbk:=xE h1
 exact Iy h196 h111 h44 h9 h3 h4 f1 f2 f3 f4 f5 f6 f7 f8 hbk (D4 h2 λe he=>(hbk e he).1) hlen (ae 1000000) (J5 h1)
end
end
end Go.Ax
end
section
namespace Go.Ax
open Go Go.RowKit
section
open Go.ChangeMaps (setBlock)
structure Rg (W:World) (b r:Nat) (left:List Value):Prop where
 ex:∃(en:Array MapEntry) (cl:Nat) (seen:Array Nat),W.heap[r]?=some (.mapIter (some b) cl seen cl)/\W.heap[b]?=some (.map en cl)/\MapKept.Stamped en cl/\left.Perm ((en.toList.filter λe=>!seen.contains e.born).map (·.key))
theorem Rg.kept {W W':World}{b r:Nat}{left:List Value}(h:Rg W b r left)(hk:KeepsWalks W W'):Rg W' b r left:=by
 obtain⟨en,cl,seen,h1,h2,h3,h4⟩:=h.ex
 exact⟨en,cl,seen,hk.same r _ h1 rfl,hk.same b _ h2 rfl,h3,h4⟩
def CF (W:World) (b r:Nat):Nat:=match W.heap[r]?,W.heap[b]? with
 |some (.mapIter _ _ seen _),some (.map en _)=>(en.toList.filter λe=>!seen.contains e.born).length
 |_,_=>0
theorem Rg.left_eq {W:World}{b r:Nat}{left:List Value}(h:Rg W b r left):CF W b r=left.length:=by
 obtain⟨en,cl,seen,h1,h2,_,h4⟩:=h.ex
 have:=h4.length_eq
 simp only[CF,h1,h2,this,bg]
theorem Rg.walk {W:World}{b r:Nat}{left:List Value}(h:Rg W b r left):∃o:Obj,W.heap[r]?=some o/\o.isWalk=true:=by
 obtain⟨en,cl,seen,h1,_⟩:=h.ex
 exact⟨_,h1,rfl⟩
section
variable {F:Fence}{n:Nat}{P:Program} (w:World) {ops:Array Oper}{rest:List Oper}{o:Oper}{a:Act}{Q:Exit->Act->World->Prop}
theorem lX (hg:o.guard=none) (m:Operand) (t:TypeId)(hop:o.op=Op.range t m) (k e:TypeId)(ht:P.underlying t=some (.map k e)) (b:Nat) (en:Array MapEntry) (cl:Nat)
  (hm:a.eval m=.map (some b))(hb:w.heap[b]?=some (.map en cl))(hst:MapKept.Stamped en cl)
  (hK:∀w',Rg w' b w.heap.size (en.toList.map (·.key))->w.grownBy w' none->w'.heap.size=w.heap.size+1->wpListIn F n P ops Q rest (a.put o.dst (.pointer (some ⟨w.heap.size,0,none⟩))) w') :
  wpListIn F n P ops Q (o::rest) a w:=by
 refine wpListIn_plain hg λK' hK'=>?_
 have hr:(Instr.range t (.map (some b))).run P w=.ok (.pointer (some ⟨w.heap.size,0,none⟩)) (w.alloc (.mapIter (some b) cl #[] cl)):=by
  simp only[Instr.range,Sem.run_bind,run_underlying ht,getObj,Sem.run,hb,Result.andThen]
  rfl
 have hblt:=(bq.1 hb).1
 unfold Oper.wpIn
 refine⟨?_,?_⟩
 ·simp[Oper.about,hop]
 ·rw[Oper.semAt_plain F _ _ (by rw[hop];intro c hc';cases hc')]
  simp only[execOp,hop,hm,hr,Result.andThen,Sem.run_bind,Sem.run_pure]
  refine hK' _ _ (hK _ ⟨en,cl,#[],World.alloc_heap_new w _,(Below.heap_alloc w _ b hblt).trans hb,hst,?_⟩ (World.grownBy_alloc w _ none) (by simp))
  rw[o7.2 (λe _=>by simp)]
theorem mW (hg:o.guard=none) (it:Operand)(hop:o.op=Op.next it false) (b r:Nat) (left:List Value)
  (hit:a.eval it=.pointer (some ⟨r,0,none⟩))(h:Rg w b r left)
  (hDone:left=[]->wpListIn F n P ops Q rest (a.put o.dst (.tuple #[.bool false])) w)
  (hMore:∀(x v:Value) (w':World) (left':List Value),(x::left').Perm left->Rg w' b r left'->w.grownBy w' (some r)->w'.heap.size=w.heap.size ->
   (Instr.entry (.pointer (some ⟨r,0,none⟩))).run P w'=.ok (.tuple #[x,v]) w'->wpListIn F n P ops Q rest (a.put o.dst (.tuple #[.bool true,x,v])) w') :
  wpListIn F n P ops Q (o::rest) a w:=by
 refine wpListIn_plain hg λK' hK'=>?_
 unfold Oper.wpIn
 refine⟨by simp[Oper.about,hop],?_⟩
 rw[Oper.semAt_plain F _ _ (by rw[hop];intro c hc';cases hc')]
 obtain⟨en,cl,seen,h1,h2,h3,h4⟩:=h.ex
 rcases run_next_at (P:=P) w o.type r b cl cl seen en cl h1 h2 h3.1 (ae _) with⟨e0,r2⟩ | ⟨q,r1,w1,r2,r3⟩
 ·simp only[execOp,hop,hit,r2,Result.andThen,Sem.run_bind,Sem.run_pure]
  refine hK' _ _ (hDone ?_)
  have:(en.toList.filter λe=>!seen.contains e.born)=[]:=by
   have:=Array.eq_empty_of_size_eq_zero e0
   simpa [leftOf]using au Array.toList this
  rw[this]at h4
  exact List.perm_nil.1 h4
 ·simp only[execOp,hop,hit,r3,Result.andThen,Sem.run_bind,Sem.run_pure]
  have hw1:w1.heap=w.heap:=by rcases r2 with rfl | rfl <;> rfl
  have hrlt:=(bq.1 h1).1
  have hne:b≠r:=by intro e;subst e;rw[h1]at h2;cases h2
  have hqen:q∈en.toList/\(!seen.contains q.born)=true:=by
   simpa [leftOf]using r1
  have hr':(setBlock w1 r (.mapIter (some b) cl (seen.push q.born) cl)).heap[r]?=some (.mapIter (some b) cl (seen.push q.born) cl):=by
   show (w1.heap.setIfInBounds r _)[r]?=_
   rw[hw1]
   simp[hrlt]
  have hb':(setBlock w1 r (.mapIter (some b) cl (seen.push q.born) cl)).heap[b]?=some (.map en cl):=by
   show (w1.heap.setIfInBounds r _)[b]?=_
   rw[hw1,Array.getElem?_setIfInBounds_ne (ju hne)]
   exact h2
  have hf:(en.toList.filter λe=>!(seen.push q.born).contains e.born)=(en.toList.filter λe=>!seen.contains e.born).filter λe=>!(e.born==q.born):=by
   rw[List.filter_filter]
   refine List.filter_congr λe _=>?_
   simp only[Array.contains_push,Bool.not_or]
   rw[Bool.and_comm]
  obtain⟨la,lz,hl⟩:=List.append_of_mem (oo.2 hqen:q∈en.toList.filter λe=>!seen.contains e.born)
  have hself:(la++q::lz).filter (λe:MapEntry=>!(e.born==q.born))=la++lz:=by
   have hnd2:((la++q::lz).map (·.born)).Nodup:=by rw[<- hl];exact h3.2.1.sublist (List.filter_sublist.map _)
   rw[eu,bl,jv]at hnd2
   obtain⟨n1,n2,n3⟩:=hnd2
   rw[dm]at n2
   rw[List.filter_append,List.filter_cons]
   have q0:(!(q.born==q.born))=false:=by simp
   rw[q0,az (by simp)]
   congr 1
   ·rw[o7]
    intro e he
    have:e.born≠q.born:=λh=>n3 _ (List.mem_map_of_mem he) _ (By ..) h
    simp[this]
   ·rw[o7]
    intro e he
    have:e.born≠q.born:=λh=>n2.1 (by rw[<- h];exact List.mem_map_of_mem he)
    simp[this]
  refine hK' _ _ (hMore q.key q.val _ ((la++lz).map (·.key)) ?_ ⟨en,cl,seen.push q.born,hr',hb',h3,by rw[hf,hl,hself]⟩ ?_ ?_ (run_entry_at _ r b cl seen en cl q hr' hb' hqen.1 h3.2.1))
  ·refine List.Perm.trans ?_ h4.symm
   rw[hl]
   simp only[eu,bl]
   exact jr.symm
  ·refine⟨?_,?_,?_,?_,λk hk hne=>?_⟩
   ·rcases r2 with rfl | rfl <;> rfl
   ·rcases r2 with rfl | rfl <;> rfl
   ·rcases r2 with rfl | rfl <;> rfl
   ·show w.heap.size<=(w1.heap.setIfInBounds r _).size
    rw[hw1];simp
   ·show (w1.heap.setIfInBounds r _)[k]?=_
    rw[hw1,Array.getElem?_setIfInBounds_ne]
    intro e;exact hne (by rw[e])
  ·show (w1.heap.setIfInBounds r _).size=_
   rw[hw1];simp
end
end
end Go.Ax
end
section
namespace Go.AxC
open Go Go.Proofs Go.Ax Go.RowKit Go.Maps Go.Sort Go.Shelf
def qR (x:Bool × ByteArray):Value:=.agg #[.bool x.1,.string x.2]
def encS (x:ByteArray):Value:=.string x
def fE (x:Bool × ByteArray):List Value:=[.bool x.1,.string x.2]
def pV (x:ByteArray):List Value:=[.string x]
set_option maxRecDepth 100000 in
theorem HO (F:Fence) (n:Nat)(hF:F.fn 148)(hro:F.round=none)(hn:1<=n) (Bm b:Nat) (en:Array MapEntry) (cl:Nat) (w:World)(hBm:Bm<w.heap.size)
  (hm:w.cell? ⟨Bm,0,none⟩=some (.map (some b)))(hb:w.heap[b]?=some (.map en cl))(hst:MapKept.Stamped en cl)(hk:∀x∈en.toList.map (·.key),∃y,x=qR y) :
  SeqStopsK F n Tryz.prog 148 #[.pointer (some ⟨Bm,0,none⟩)] (λx=>#[qR x]) KeepsWalks (λxs=>(xs.map qR).Perm (en.toList.map (·.key))) (λ_=>True) en.size w:=by
 intro l J Jx W hW hJ hJx hY h0
 replace hm:W.cell? ⟨Bm,0,none⟩=some (.map (some b)):=(hW.cell (p:=⟨Bm,0,none⟩) hBm).trans hm
 replace hb:W.heap[b]?=some (.map en cl):=(hW.block b (bq.1 hb).1).trans hb
 refine callsIn_of_wp Tryz.func148 rfl hF ?_ hro
 simp only[Tryz.ntmps148,l7,af,b8,reduceAdd,reduceSub,k8,k9,mq,l8,cq,dy]
 gi_wp2_with (first
  |(gi_at_range;refine lX _ rfl _ _ rfl _ _ Tryz.underlying76 b en cl rfl hb hst ?_;intro w0 hrg0 hg0 hs0)
  |gi_in)
 gi_loopw [] (λwr=>∃(left:List Value) (ss:List (Bool × ByteArray)),Rg wr b W.heap.size left/\(ss.map qR++left).Perm (en.toList.map (·.key))/\J ss wr)
  (λwr=>CF wr b W.heap.size)
 case atStart=>
  exact⟨_,[],hrg0,by simp,hJ [] W w0 none h0 hg0 (λr e=>by cases e)⟩
 case round=>
  obtain⟨left,ss,hrg,hp,hJs⟩:=hrel
  gi_wp2_with (first
   |(gi_at_next;refine mW _ rfl _ rfl b W.heap.size left rfl hrg ?_ ?_)
   |gi_in)
  ·intro hl0
   gi_wp2
   go_end0
   refine⟨⟨_,rfl⟩,.inl ⟨ss,?_,hJs⟩⟩
   rw[hl0]at hp
   simpa using hp
  ·intro x v w2 left2 hpl hrg2 hg2 hs2 hen
   have hx:x∈en.toList.map (·.key):=hp.mem_iff.1 (jx _ (hpl.mem_iff.1 (By ..)))
   obtain⟨y,rfl⟩:=hk x hx
   have hJ2:J ss w2:=hJ ss wr w2 (some W.heap.size) hJs hg2 (λr e=>by cases e;exact⟨ae _,hrg.walk⟩)
   have hp2:((ss++[y]).map qR++left2).Perm (en.toList.map (·.key)):=by
    refine List.Perm.trans ?_ hp
    rw[eu,cn]
    exact ov _ hpl
   have hlen:ss.length<en.size:=by
    have:=hp2.length_eq
    simp at this
    omega
   obtain⟨q1,q2⟩:=y
   have hJ3:J ss (w2.alloc (.cells #[.bool q1,.string q2] 51)):=hJ ss w2 _ none hJ2 (World.grownBy_alloc w2 _ none) (λr e=>by cases e)
   have hrg3:Rg (w2.alloc (.cells #[.bool q1,.string q2] 51)) b W.heap.size left2:=hrg2.kept (KeepsWalks.alloc _ _)
   obtain⟨fn,tmps,assign,body,hy,hR⟩:=hY ss (q1,q2) _ hJ3 hlen
   have hll:=hpl.length_eq
   simp only[qR]at hen hy
   simp only[qR]
   clear hs2
   gi_wp2
   refine hR.mono ?_
   rintro e W3 (⟨rfl,hJ4,hk3⟩ | ⟨rfl,hJx3⟩)
   ·gi_wp2
    have hrg4:=hrg3.kept hk3
    go_roundw
    case rel=>exact⟨left2,ss++[(q1,q2)],hrg4,hp2,hJ4⟩
    case measure=>rw[hrg4.left_eq,hrg.left_eq];simp at hll;omega
   ·gi_wp2
    refine bodyPost_ret (results_none rfl _ _ _) rfl ?_
    exact⟨⟨_,rfl⟩,.inr ⟨ss++[(q1,q2)],trivial,hJx3⟩⟩
set_option maxRecDepth 100000 in
theorem HN (F:Fence) (n:Nat)(hF:F.fn 127)(hro:F.round=none)(hn:1<=n) (Bm b:Nat) (en:Array MapEntry) (cl:Nat) (w:World)(hBm:Bm<w.heap.size)
  (hm:w.cell? ⟨Bm,0,none⟩=some (.map (some b)))(hb:w.heap[b]?=some (.map en cl))(hst:MapKept.Stamped en cl)(hk:∀x∈en.toList.map (·.key),∃y,x=encS y) :
  SeqStopsK F n Tryz.prog 127 #[.pointer (some ⟨Bm,0,none⟩)] (λx=>#[encS x]) KeepsWalks (λxs=>(xs.map encS).Perm (en.toList.map (·.key))) (λ_=>True) en.size w:=by
 intro l J Jx W hW hJ hJx hY h0
 replace hm:W.cell? ⟨Bm,0,none⟩=some (.map (some b)):=(hW.cell (p:=⟨Bm,0,none⟩) hBm).trans hm
 replace hb:W.heap[b]?=some (.map en cl):=(hW.block b (bq.1 hb).1).trans hb
 refine callsIn_of_wp Tryz.func127 rfl hF ?_ hro
 simp only[Tryz.ntmps127,l7,af,b8,reduceAdd,reduceSub,k8,k9,mq,l8,cq,dy]
 gi_wp2_with (first
  |(gi_at_range;refine lX _ rfl _ _ rfl _ _ Tryz.underlying103 b en cl rfl hb hst ?_;intro w0 hrg0 hg0 hs0)
  |gi_in)
 gi_loopw [] (λwr=>∃(left:List Value) (ss:List (ByteArray)),Rg wr b W.heap.size left/\(ss.map encS++left).Perm (en.toList.map (·.key))/\J ss wr)
  (λwr=>CF wr b W.heap.size)
 case atStart=>
  exact⟨_,[],hrg0,by simp,hJ [] W w0 none h0 hg0 (λr e=>by cases e)⟩
 case round=>
  obtain⟨left,ss,hrg,hp,hJs⟩:=hrel
  gi_wp2_with (first
   |(gi_at_next;refine mW _ rfl _ rfl b W.heap.size left rfl hrg ?_ ?_)
   |gi_in)
  ·intro hl0
   gi_wp2
   go_end0
   refine⟨⟨_,rfl⟩,.inl ⟨ss,?_,hJs⟩⟩
   rw[hl0]at hp
   simpa using hp
  ·intro x v w2 left2 hpl hrg2 hg2 hs2 hen
   have hx:x∈en.toList.map (·.key):=hp.mem_iff.1 (jx _ (hpl.mem_iff.1 (By ..)))
   obtain⟨y,rfl⟩:=hk x hx
   have hJ2:J ss w2:=hJ ss wr w2 (some W.heap.size) hJs hg2 (λr e=>by cases e;exact⟨ae _,hrg.walk⟩)
   have hp2:((ss++[y]).map encS++left2).Perm (en.toList.map (·.key)):=by
    refine List.Perm.trans ?_ hp
    rw[eu,cn]
    exact ov _ hpl
   have hlen:ss.length<en.size:=by
    have:=hp2.length_eq
    simp at this
    omega
   obtain⟨q1,hq1⟩:∃q1,q1=y:=⟨_,rfl⟩
   subst hq1
   have hJ3:=hJ2
   have hrg3:=hrg2
   obtain⟨fn,tmps,assign,body,hy,hR⟩:=hY ss q1 _ hJ3 hlen
   have hll:=hpl.length_eq
   simp only[encS]at hen hy
   simp only[encS]
   clear hs2
   gi_wp2
   refine hR.mono ?_
   rintro e W3 (⟨rfl,hJ4,hk3⟩ | ⟨rfl,hJx3⟩)
   ·gi_wp2
    have hrg4:=hrg3.kept hk3
    go_roundw
    case rel=>exact⟨left2,ss++[q1],hrg4,hp2,hJ4⟩
    case measure=>rw[hrg4.left_eq,hrg.left_eq];simp at hll;omega
   ·gi_wp2
    refine bodyPost_ret (results_none rfl _ _ _) rfl ?_
    exact⟨⟨_,rfl⟩,.inr ⟨ss++[q1],trivial,hJx3⟩⟩
set_option maxRecDepth 100000 in
theorem HM (F:Fence) (n:Nat)(hF:F.fn 323)(hro:F.round=none)(hn:1<=n) (Bm b:Nat) (en:Array MapEntry) (cl:Nat) (w:World)(hBm:Bm<w.heap.size)
  (hm:w.cell? ⟨Bm,0,none⟩=some (.map (some b)))(hb:w.heap[b]?=some (.map en cl))(hst:MapKept.Stamped en cl)(hk:∀x∈en.toList.map (·.key),∃y,x=encS y) :
  SeqStopsK F n Tryz.prog 323 #[.pointer (some ⟨Bm,0,none⟩)] (λx=>#[encS x]) KeepsWalks (λxs=>(xs.map encS).Perm (en.toList.map (·.key))) (λ_=>True) en.size w:=by
 intro l J Jx W hW hJ hJx hY h0
 replace hm:W.cell? ⟨Bm,0,none⟩=some (.map (some b)):=(hW.cell (p:=⟨Bm,0,none⟩) hBm).trans hm
 replace hb:W.heap[b]?=some (.map en cl):=(hW.block b (bq.1 hb).1).trans hb
 refine callsIn_of_wp Tryz.func323 rfl hF ?_ hro
 simp only[Tryz.ntmps323,l7,af,b8,reduceAdd,reduceSub,k8,k9,mq,l8,cq,dy]
 gi_wp2_with (first
  |(gi_at_range;refine lX _ rfl _ _ rfl _ _ Tryz.underlying91 b en cl rfl hb hst ?_;intro w0 hrg0 hg0 hs0)
  |gi_in)
 gi_loopw [] (λwr=>∃(left:List Value) (ss:List (ByteArray)),Rg wr b W.heap.size left/\(ss.map encS++left).Perm (en.toList.map (·.key))/\J ss wr)
  (λwr=>CF wr b W.heap.size)
 case atStart=>
  exact⟨_,[],hrg0,by simp,hJ [] W w0 none h0 hg0 (λr e=>by cases e)⟩
 case round=>
  obtain⟨left,ss,hrg,hp,hJs⟩:=hrel
  gi_wp2_with (first
   |(gi_at_next;refine mW _ rfl _ rfl b W.heap.size left rfl hrg ?_ ?_)
   |gi_in)
  ·intro hl0
   gi_wp2
   go_end0
   refine⟨⟨_,rfl⟩,.inl ⟨ss,?_,hJs⟩⟩
   rw[hl0]at hp
   simpa using hp
  ·intro x v w2 left2 hpl hrg2 hg2 hs2 hen
   have hx:x∈en.toList.map (·.key):=hp.mem_iff.1 (jx _ (hpl.mem_iff.1 (By ..)))
   obtain⟨y,rfl⟩:=hk x hx
   have hJ2:J ss w2:=hJ ss wr w2 (some W.heap.size) hJs hg2 (λr e=>by cases e;exact⟨ae _,hrg.walk⟩)
   have hp2:((ss++[y]).map encS++left2).Perm (en.toList.map (·.key)):=by
    refine List.Perm.trans ?_ hp
    rw[eu,cn]
    exact ov _ hpl
   have hlen:ss.length<en.size:=by
    have:=hp2.length_eq
    simp at this
    omega
   obtain⟨q1,hq1⟩:∃q1,q1=y:=⟨_,rfl⟩
   subst hq1
   have hJ3:=hJ2
   have hrg3:=hrg2
   obtain⟨fn,tmps,assign,body,hy,hR⟩:=hY ss q1 _ hJ3 hlen
   have hll:=hpl.length_eq
   simp only[encS]at hen hy
   simp only[encS]
   clear hs2
   gi_wp2
   refine hR.mono ?_
   rintro e W3 (⟨rfl,hJ4,hk3⟩ | ⟨rfl,hJx3⟩)
   ·gi_wp2
    have hrg4:=hrg3.kept hk3
    go_roundw
    case rel=>exact⟨left2,ss++[q1],hrg4,hp2,hJ4⟩
    case measure=>rw[hrg4.left_eq,hrg.left_eq];simp at hll;omega
   ·gi_wp2
    refine bodyPost_ret (results_none rfl _ _ _) rfl ?_
    exact⟨⟨_,rfl⟩,.inr ⟨ss++[q1],trivial,hJx3⟩⟩
def Ld:Option Code->Code
 |some (.seq _ (.seq (.seq _ (.block _ (.rangeFunc _ _ a _))) _))=>a
 |_=>.skip
def Lc:Option Code->Code
 |some (.seq _ (.seq (.seq _ (.block _ (.rangeFunc _ _ _ b))) _))=>b
 |_=>.skip
def NC (n:Nat) (A B:World):Prop:=KeepsWalks A B/\Below n A B
theorem JN {α:Type}{F:Fence}{n:Nat}{P:Program}{g:Nat}{lb:Array Value}{encs:α->Array Value}{S Sp:List α->Prop}{N:Nat}{w:World} (m:Nat)(h:SeqStopsK F n P g lb encs KeepsWalks S Sp N w):SeqStopsK F n P g lb encs (NC m) S Sp N w:=
 λl J Jx W hW hJ hJx hY h0=>h l J Jx W hW hJ hJx (λpre x W1 h1 h2=>by
  obtain⟨fn,tmps,assign,body,hy,hR⟩:=hY pre x W1 h1 h2
  exact⟨fn,tmps,assign,body,hy,hR.mono λe W' h=>h.imp (λ⟨a,b,c⟩=>⟨a,b,c.1⟩) id⟩) h0
theorem Ff {n:Nat}{w A B:World}(h:Below n w A) (k:Below n w B)(hs:A.heap.size<=B.heap.size):Below n A B:=
 ⟨k.os.trans h.os.symm,k.tape.trans h.tape.symm,k.output.trans h.output.symm,hs,λi hi=>(k.block i hi).trans (h.block i hi).symm⟩
theorem Gq (w:World) (x y:Value) (t:TypeId):∀j u,[x,y][j]?=some u->(w.alloc (.cells #[x,y] t)).cell? ((⟨w.heap.size,0,none⟩:Addr).add j)=some u:=by
 intro j u hj
 match j,hj with
 |0,hj=>simp at hj;subst hj;simp[Addr.add]
 |1,hj=>simp at hj;subst hj;simp[Addr.add]
noncomputable def AK:Code:=Ld Tryz.f181.body
noncomputable def Gy:Code:=Lc Tryz.f181.body
noncomputable def mN (fn:FuncId) (sv:Value) (Bs D:Nat) (st:LoopState) (pend:Option Code):Loop:=
 { state:=st,pending:=pend,fn,tmps:=#[.slice none 0 0,sv,.pointer (some ⟨Bs,0,none⟩),undef,.slice none 0 0,undef,sv,undef,undef,undef,undef,undef,undef],params:=#[7],assign:=AK,body:=Gy,defers:=D }
structure IU (w0:World) (fn:FuncId) (sv:Value) (Bs l D:Nat) (ss:List (Bool × ByteArray)) (W:World):Prop where
 box:∃v,W.heap[Bs]?=some (.cells #[v] 23 (0,0))/\W.ownsRow w0.heap.size 51 2 v ss.length (ss.flatMap fE)/\(v=.slice none 0 0 ↔ ss=[])
 L:W.heap[l]?=some (.loop (mN fn sv Bs D .ready none))
 K:W.heap[D]?=some (.deferred (some []))
 below:Below w0.heap.size w0 W
theorem Ke (w0:World) (fn:FuncId) (sv:Value) (Bs l D B:Nat)(hB:w0.heap.size<=B):AbidesFrom B (IU w0 fn sv Bs l D):=λs W W' row h hg hrow=>by
 have hrow':∀r,row=some r->∃o:Obj,W.heap[r]?=some o/\o.isWalk=true:=λr e=>(hrow r e).2
 obtain⟨v,hv,hr,hn⟩:=h.box
 exact⟨⟨v,(grownBy_keeps hg hrow' hv rfl).trans hv,ownsRow_abides_a hr hg hrow',hn⟩,(grownBy_keeps hg hrow' h.L rfl).trans h.L,(grownBy_keeps hg hrow' h.K rfl).trans h.K,
  h.below.grown hg h.below.size (λk e=>e8 hB (hrow k e).1)⟩
set_option maxRecDepth 100000 in
theorem QI (F : Fence) (m : Nat) (w0 : World) (fn : FuncId) (hfn : F.fn fn) (sv : Value) (Bs l D : Nat) (hBl : Bs ≠ l) (hDl : D ≠ l) (hDB : D ≠ Bs) (h0B : w0.heap.size <= Bs) (h0l : w0.heap.size <= l)
    (N : Nat) (hN : N <= maxLen) (hNb : N * 24 <= 140737488355328) (ss : List (Bool × ByteArray)) (x : Bool × ByteArray) (W : World) (h : IU w0 fn sv Bs l D ss W) (hlen : ss.length < N) :
    YieldAt F m Tryz.prog l #[qR x] W fun e W' => e = .returned (.bool true) /\ IU w0 fn sv Bs l D (ss ++ [x]) W' /\ NC w0.heap.size W W' := by
  obtain ⟨q1, q2⟩ := x
  obtain ⟨v, hv, hrow, _⟩ := h.box
  have h' := h
  refine ⟨fn, #[.slice none 0 0, sv, .pointer (some ⟨Bs, 0, none⟩), undef, .slice none 0 0, undef, sv, qR (q1, q2), undef, undef, undef, undef, undef], AK, Gy, by simpa [mN] using run_yield (P := Tryz.prog) (args := #[qR (q1, q2)]) h.L rfl, roundIn_of_wpIn hfn ?_⟩
  have hBW : Bs < W.heap.size := (bq.1 hv).1
  have hlW : l < W.heap.size := (bq.1 h.L).1
  have hDW : D < W.heap.size := (bq.1 h.K).1
  have hv1 : (W.alloc (.cells #[.bool q1, .string q2] 51)).heap[Bs]? = some (.cells #[v] 23 (0, 0)) := (Below.heap_alloc _ _ Bs hBW).trans hv
  have hL1 : (W.alloc (.cells #[.bool q1, .string q2] 51)).heap[l]? = some (.loop (mN fn sv Bs D .ready none)) := (Below.heap_alloc _ _ l hlW).trans h.L
  have hK1 : (W.alloc (.cells #[.bool q1, .string q2] 51)).heap[D]? = some (.deferred (some [])) := (Below.heap_alloc _ _ D hDW).trans h.K
  have hrow1 : (W.alloc (.cells #[.bool q1, .string q2] 51)).ownsRow w0.heap.size 51 2 v ss.length (ss.flatMap fE) := hrow.alloc _
  have hb1 : Below w0.heap.size w0 (W.alloc (.cells #[.bool q1, .string q2] 51)) := h.below.alloc h.below.size _
  have hk1 : KeepsWalks W (W.alloc (.cells #[.bool q1, .string q2] 51)) := KeepsWalks.alloc _ _
  have hbr := run_beginRound (P := Tryz.prog) hL1 rfl
  obtain ⟨W2, hW2⟩ : ∃ W2, (W.alloc (.cells #[.bool q1, .string q2] 51)).putObj l (.loop { mN fn sv Bs D .ready none with state := .busy }) = W2 := ⟨_, rfl⟩
  rw [hW2] at hbr
  have hl1 : l < (W.alloc (.cells #[.bool q1, .string q2] 51)).heap.size := (bq.1 hL1).1
  have hg2 : (W.alloc (.cells #[.bool q1, .string q2] 51)).grownBy W2 (some l) := by rw [<- hW2]; exact grownBy_putObj_a _ _ _
  have hk2 : KeepsWalks W W2 := hk1.trans (by rw [<- hW2]; exact KeepsWalks.putObj _ hL1 rfl)
  have hv2 : W2.heap[Bs]? = some (.cells #[v] 23 (0, 0)) := by rw [<- hW2]; exact (World.putObj_heap_other hBl).trans hv1
  have hK2 : W2.heap[D]? = some (.deferred (some [])) := by rw [<- hW2]; exact (World.putObj_heap_other hDl).trans hK1
  have hL2 : W2.heap[l]? = some (.loop { mN fn sv Bs D .ready none with state := .busy }) := by rw [<- hW2]; exact World.putObj_heap_same hl1
  have hrow2 : W2.ownsRow w0.heap.size 51 2 v ss.length (ss.flatMap fE) := hrow1.kept hg2 (ownsRow_ne_a hrow1 hL1 (fun cur e => by cases e))
  have hb2 : Below w0.heap.size w0 W2 := hb1.grown hg2 hb1.size (fun k e => by cases e; exact h0l)
  have hBlt : Bs < W2.heap.size := (bq.1 hv2).1
  have hl2 : l < W2.heap.size := (bq.1 hL2).1
  have hDlt : D < W2.heap.size := (bq.1 hK2).1
  obtain ⟨hc2, hf2⟩ := cell_of_box_a hv2
  have hx2 : W2.heap[W.heap.size]? = some (.cells #[.bool q1, .string q2] 51 (0, 0)) := by rw [<- hW2]; exact (World.putObj_heap_other (by omega)).trans (World.alloc_heap_new W _)
  have hxA : W2.cell? ⟨W.heap.size, 0, none⟩ = some (.bool q1) := by simp [World.cell?, hx2]
  have hxB : W2.cell? ⟨W.heap.size, 1, none⟩ = some (.string q2) := by simp [World.cell?, hx2]
  have qC : ∀ {j : Nat} {o : Obj}, W2.heap[j]? = some o -> (∀ cur, o ≠ .cells cur 51 (0, 0)) -> some j ≠ v.ownBlock := fun hj hno => by
    rcases ownsRow_ne_a hrow2 hj hno with e | e
    · rw [e]; simp
    · exact fun e' => e e'.symm
  clear hW2
  simp only [AK, Ld, Tryz.f181, qR]
  gi_wp2_with (rw [Oper.semAt_eq _ _ _ (fun c h => by cases h)]; go_simp; try go_bits)
  simp only [Gy, Lc, Tryz.f181]
  gi_wp2_with (first
    | (gi_at_builtin; refine wpListIn_append_own _ rfl _ _ 23 rfl w0.heap.size 51 _ (.agg #[.bool false, .string ⟨#[]⟩]) 2 24 Tryz.underlying23 Tryz.type51 rfl rfl rfl rfl (by decide) _ _ _ rfl (hrow2.alloc _) ⟨W2.heap.size, 0, none⟩ 1 1 [.bool q1, .string q2] rfl rfl (Gq _ _ _ _) (by simp [Value.oneCell']) (by omega) (by omega) (by have := hb2.size; simp; omega) ?_; intro v' w3 hown' hg3 hnil3
       have hv3 : w3.heap[Bs]? = some (.cells #[v] 23 (0, 0)) := (hg3.block Bs (by simp; omega) (qC hv2 (fun cur e => by cases e))).trans ((Below.heap_alloc _ _ Bs hBlt).trans hv2)
       obtain ⟨hc3, hf3⟩ := cell_of_box_a hv3
       obtain ⟨g', cap', cur', rfl, hbase', hgb', hr1, hr2, hr3, hr4⟩ : ∃ g' cap' cur', v' = .slice (some ⟨g', 0, none⟩) (ss.length + 1) cap' /\ w0.heap.size <= g' /\ w3.heap[g']? = some (.cells cur' 51 (0, 0)) /\ ss.length + 1 <= cap' /\ cap' <= maxLen /\ cur'.size = cap' * 2 /\ cur'.toList.take ((ss.length + 1) * 2) = ss.flatMap fE ++ [.bool q1, .string q2] := by
         rcases hown'.2 with ⟨_, h0⟩ | h'
         · exact absurd h0 (by omega)
         · exact h'
       go_frame)
    | (rw [Oper.semAt_eq _ _ _ (fun c h => by cases h)]; go_simp; try go_bits))
  have hg3' : (W2.alloc (.cells #[.bool q1, .string q2] 51)).grownBy w3 v.ownBlock := hg3
  have hL3 : w3.heap[l]? = some (.loop { mN fn sv Bs D .ready none with state := .busy }) := (hg3'.block l (by simp; omega) (qC hL2 (fun cur e => by cases e))).trans ((Below.heap_alloc _ _ l hl2).trans hL2)
  have hK3 : w3.heap[D]? = some (.deferred (some [])) := (hg3'.block D (by simp; omega) (qC hK2 (fun cur e => by cases e))).trans ((Below.heap_alloc _ _ D hDlt).trans hK2)
  obtain ⟨w4, hw4⟩ : ∃ w4, w3.setCell ⟨Bs, 0, none⟩ (.slice (some ⟨g', 0, none⟩) (ss.length + 1) cap') = w4 := ⟨_, rfl⟩
  rw [hw4]
  have hg4 : w3.grownBy w4 (some Bs) := by rw [<- hw4]; exact grownBy_setCell0_a _ _ _
  have hv4 : w4.heap[Bs]? = some (.cells #[.slice (some ⟨g', 0, none⟩) (ss.length + 1) cap'] 23 (0, 0)) := by rw [<- hw4]; exact heap_setCell_box_a _ hv3
  have hL4 : w4.heap[l]? = some (.loop { mN fn sv Bs D .ready none with state := .busy }) := (hg4.block l (bq.1 hL3).1 (fun e => hBl (by cases e; rfl))).trans hL3
  have hK4 : w4.heap[D]? = some (.deferred (some [])) := (hg4.block D (bq.1 hK3).1 (fun e => hDB (by cases e; rfl))).trans hK3
  have hrow4 := hown'.kept hg4 (ownsRow_ne_a hown' hv3 (fun cur e => by cases e))
  have hl4 : l < w4.heap.size := (bq.1 hL4).1
  have hb3 : Below w0.heap.size w0 w3 := (hb2.alloc hb2.size _).grown hg3' (by have := hb2.size; simp; omega) (fun k e => (hrow2.lt k e).1)
  have hb4 : Below w0.heap.size w0 w4 := hb3.grown hg4 hb3.size (fun k e => by cases e; exact h0B)
  have hk4 : KeepsWalks W w4 := ((hk2.trans (KeepsWalks.alloc _ _)).trans (KeepsWalks.of_grownBy hg3' (ownsRow_not_walk_a (hrow2.alloc _)))).trans (by rw [<- hw4]; exact KeepsWalks.setCell _ _ _)
  clear hw4
  have hb5 := hb4.grown (grownBy_putObj_a w4 l (.loop { { mN fn sv Bs D .ready none with state := .busy } with state := if (none : Option Code).isNone then .ready else .done, pending := none })) hb4.size (fun k e => by cases e; exact h0l)
  have hk5 := hk4.trans (KeepsWalks.putObj (.loop { { mN fn sv Bs D .ready none with state := .busy } with state := if (none : Option Code).isNone then .ready else .done, pending := none }) hL4 rfl)
  refine ⟨_, _, run_endRound none hL4, rfl, ⟨⟨_, (World.putObj_heap_other hBl).trans hv4, ?_, by simp⟩, World.putObj_heap_same hl4, (World.putObj_heap_other hDl).trans hK4, hb5⟩, hk5, Ff h'.below hb5 hk5.size⟩
  have := hrow4.kept (grownBy_putObj_a w4 l (.loop { { mN fn sv Bs D .ready none with state := .busy } with state := if (none : Option Code).isNone then .ready else .done, pending := none })) (ownsRow_ne_a hrow4 hL4 (fun cur e => by cases e))
  simpa [fE] using this
set_option maxRecDepth 100000 in
theorem Kb (F : Fence) (n : Nat) (hF : F.fn 181) (hro : F.round = none) (hn : 2 <= n) (g : Nat) (lb : Array Value) (hFg : F.fn g) (eg : ∀ args w, (callFunc g args).run Tryz.prog w = .ok (.enter g args) w)
    (S : List (Bool × ByteArray) -> Prop) (N : Nat) (hN : N <= maxLen) (hNb : N * 24 <= 140737488355328) (w : World) (hseq : SeqStopsK F (n - 1) Tryz.prog g lb (fun x => #[qR x]) (NC w.heap.size) S (fun _ => True) N w) :
    CallsIn F n Tryz.prog 181 #[.slice none 0 0, .func (.func g) #[] lb] w fun e w' => ∃ (v : Value) (ss : List (Bool × ByteArray)), e = .returned v /\ S ss /\ w'.ownsRow w.heap.size 51 2 v ss.length (ss.flatMap fE) /\ (v = .slice none 0 0 ↔ ss = []) /\ Below w.heap.size w w' := by
  have h1 : 1 <= n := by omega
  refine callsIn_of_wp_marks Tryz.func181 rfl hF ?_ hro
  simp only [Tryz.ntmps181, l7, af, b8, reduceAdd, reduceSub, k8, k9, mq, l8, cq, dy]
  gi_wp2
  refine wpIn_rangeFunc ?_
  intro fn hfn
  rw [hro]
  obtain ⟨W0, hW0⟩ : ∃ W0, w.alloc (.cells #[.slice none 0 0] 23) = W0 := ⟨_, rfl⟩
  have hs0 : W0.heap.size = w.heap.size + 1 := by rw [<- hW0]; simp
  have hv0 : W0.heap[w.heap.size]? = some (.cells #[.slice none 0 0] 23 (0, 0)) := by rw [<- hW0]; exact World.alloc_heap_new w _
  have hb0 : Below w.heap.size w W0 := by rw [<- hW0]; exact (Below.refl _ w).alloc (ae _) _
  rw [hW0]
  obtain ⟨W1, hW1⟩ : ∃ W1, (W0.alloc (.deferred (some []))).alloc (.loop (mN fn (.func (.func g) #[] lb) w.heap.size W0.heap.size .ready none)) = W1 := ⟨_, rfl⟩
  have hold : ∀ k, k < W0.heap.size -> W1.heap[k]? = W0.heap[k]? := fun k hk => by
    rw [<- hW1]; exact (Below.heap_alloc _ _ k (by simp; omega)).trans (Below.heap_alloc _ _ k hk)
  have hb1 : Below w.heap.size w W1 := by rw [<- hW1]; exact (hb0.alloc hb0.size _).alloc (by have := hb0.size; simp; omega) _
  have hM : IU w fn (.func (.func g) #[] lb) w.heap.size (W0.heap.size + 1) W0.heap.size [] W1 :=
    ⟨⟨_, (hold w.heap.size (by omega)).trans hv0, ⟨rfl, .inl ⟨rfl, rfl⟩⟩, by simp⟩,
     by rw [<- hW1]; have := World.alloc_heap_new (W0.alloc (.deferred (some []))) (.loop (mN fn (.func (.func g) #[] lb) w.heap.size W0.heap.size .ready none)); rwa [World.size_alloc] at this,
     by rw [<- hW1]; exact (Below.heap_alloc _ _ _ (by simp)).trans (World.alloc_heap_new W0 _), hb1⟩
  refine ⟨W0.heap.size + 1, [{ target := .collected W0.heap.size, args := #[] }], W1, { target := .fn (.func g) lb, args := #[.func (.yield (W0.heap.size + 1)) #[] #[]] }, W1, g,
    #[.func (.yield (W0.heap.size + 1)) #[] #[]] ++ lb, W1, ?_, ?_, ?_, ?_, fun _ => h1, ?_⟩
  · rw [<- hW1]; exact run_enterLoop_outer _ _ _ _ _
  · simp [resolve, go_sem]
  · intro f' hf'; simp [Target.leads] at hf'; subst hf'; exact hFg
  · simp [invoke, go_sem, eg]
  · refine (hseq (W0.heap.size + 1) (IU w fn (.func (.func g) #[] lb) w.heap.size (W0.heap.size + 1) W0.heap.size) (fun _ _ => False) W1 hb1 (Ke _ _ _ _ _ _ _ hb1.size) (fun _ _ _ _ h _ _ => h)
      (fun pre x W hJ hl => by
        obtain ⟨fn', tmps, assign, body, hy, hR⟩ := QI F (n - 1 - 1) w fn hfn _ w.heap.size (W0.heap.size + 1) W0.heap.size (by omega) (by omega) (by omega) (ae _) (by omega) N hN hNb pre x W hJ hl
        exact ⟨fn', tmps, assign, body, hy, hR.mono fun e W' h => .inl h⟩) hM).mono ?_
    rintro e W2 ⟨⟨v0, rfl⟩, ⟨ss, hS, h2⟩ | ⟨_, _, hf⟩⟩
    case inr => exact hf.elim
    obtain ⟨v, hv, hrow, hnil⟩ := h2.box
    have hend := run_endLoop (P := Tryz.prog) h2.L (by simp [mN])
    obtain ⟨W3, hW3⟩ : ∃ W3, W2.putObj (W0.heap.size + 1) (.loop { mN fn (.func (.func g) #[] lb) w.heap.size W0.heap.size .ready none with state := .exhausted }) = W3 := ⟨_, rfl⟩
    rw [hW3] at hend
    have hg3 : W2.grownBy W3 (some (W0.heap.size + 1)) := by rw [<- hW3]; exact grownBy_putObj_a _ _ _
    have hv3 : W3.heap[w.heap.size]? = some (.cells #[v] 23 (0, 0)) := by rw [<- hW3]; exact (World.putObj_heap_other (by omega)).trans hv
    have hK3 : W3.heap[W0.heap.size]? = some (.deferred (some [])) := by rw [<- hW3]; exact (World.putObj_heap_other (by omega)).trans h2.K
    have hrow3 := hrow.kept hg3 (ownsRow_ne_a hrow h2.L (fun cur e => by cases e))
    have hb3 : Below w.heap.size w W3 := h2.below.grown hg3 h2.below.size (fun k e => by cases e; omega)
    obtain ⟨hc3, hf3⟩ := cell_of_box_a hv3
    clear hW3
    refine ⟨none, W3, hend, ?_⟩
    gi_wp2
    rw [<- hs0]
    refine ⟨by simp, .inl ⟨_, _, rfl, run_takeDeferred hK3, ?_⟩⟩
    exact ⟨_, results_tmp rfl _ _ _, v, ss, rfl, hS, hrow3.kept (grownBy_putObj_a _ _ _) (ownsRow_ne_a hrow3 hK3 (fun cur e => by cases e)), hnil, hb3.grown (grownBy_putObj_a _ _ _) hb3.size (fun k e => by cases e; omega)⟩
theorem P7 (F:Fence) (n:Nat)(hC:F.fn 146)(hF:F.fn 181)(hro:F.round=none)(hn:3<=n) (g:Nat) (lb:Array Value)(hFg:F.fn g) (eg:∀args w,(callFunc g args).run Tryz.prog w=.ok (.enter g args) w)
  (S:List (Bool × ByteArray)->Prop) (N:Nat)(hN:N<=maxLen)(hNb:N*24<=140737488355328) (w:World)(hseq:SeqStopsK F (n-1-1) Tryz.prog g lb (λx=>#[qR x]) (NC w.heap.size) S (λ_=>True) N w) :
  CallsIn F n Tryz.prog 146 #[.func (.func g) #[] lb] w λe w'=>∃(v:Value) (ss:List (Bool × ByteArray)),e=.returned v/\S ss/\w'.ownsRow w.heap.size 51 2 v ss.length (ss.flatMap fE)/\(v=.slice none 0 0 ↔ ss=[])/\Below w.heap.size w w':=by
 have h1:1<=n:=by omega
 refine callsIn_of_wp Tryz.func146 rfl hC ?_ hro
 simp only[Tryz.ntmps146,l7,af,b8,reduceAdd,reduceSub,k8,k9,mq,l8,cq,dy]
 gi_wp2_with (gi_at_call 181;refine (Kb F (n-1) hF hro (by omega) g lb hFg eg S N hN hNb _ hseq).mono ?_;rintro e w' ⟨v,ss,rfl,hS,hrow,hnil,hb⟩)
 go_ret
 exact⟨v,ss,rfl,hS,hrow,hnil,hb⟩
noncomputable def AJ:Code:=Ld Tryz.f167.body
noncomputable def Gx:Code:=Lc Tryz.f167.body
noncomputable def nD (fn:FuncId) (sv:Value) (Bs D:Nat) (st:LoopState) (pend:Option Code):Loop:=
 { state:=st,pending:=pend,fn,tmps:=#[.slice none 0 0,sv,.pointer (some ⟨Bs,0,none⟩),undef,.slice none 0 0,undef,sv,undef,undef,undef,undef,undef,undef],params:=#[7],assign:=AJ,body:=Gx,defers:=D }
structure IQ (w0:World) (fn:FuncId) (sv:Value) (Bs l D:Nat) (ss:List (ByteArray)) (W:World):Prop where
 box:∃v,W.heap[Bs]?=some (.cells #[v] 24 (0,0))/\W.ownsRow w0.heap.size 9 1 v ss.length (ss.flatMap pV)/\(v=.slice none 0 0 ↔ ss=[])
 L:W.heap[l]?=some (.loop (nD fn sv Bs D .ready none))
 K:W.heap[D]?=some (.deferred (some []))
 below:Below w0.heap.size w0 W
theorem Kc (w0:World) (fn:FuncId) (sv:Value) (Bs l D B:Nat)(hB:w0.heap.size<=B):AbidesFrom B (IQ w0 fn sv Bs l D):=λs W W' row h hg hrow=>by
 have hrow':∀r,row=some r->∃o:Obj,W.heap[r]?=some o/\o.isWalk=true:=λr e=>(hrow r e).2
 obtain⟨v,hv,hr,hn⟩:=h.box
 exact⟨⟨v,(grownBy_keeps hg hrow' hv rfl).trans hv,ownsRow_abides_a hr hg hrow',hn⟩,(grownBy_keeps hg hrow' h.L rfl).trans h.L,(grownBy_keeps hg hrow' h.K rfl).trans h.K,
  h.below.grown hg h.below.size (λk e=>e8 hB (hrow k e).1)⟩
set_option maxRecDepth 100000 in
theorem QH (F : Fence) (m : Nat) (w0 : World) (fn : FuncId) (hfn : F.fn fn) (sv : Value) (Bs l D : Nat) (hBl : Bs ≠ l) (hDl : D ≠ l) (hDB : D ≠ Bs) (h0B : w0.heap.size <= Bs) (h0l : w0.heap.size <= l)
    (N : Nat) (hN : N <= maxLen) (hNb : N * 16 <= 140737488355328) (ss : List (ByteArray)) (x : ByteArray) (W : World) (h : IQ w0 fn sv Bs l D ss W) (hlen : ss.length < N) :
    YieldAt F m Tryz.prog l #[encS x] W fun e W' => e = .returned (.bool true) /\ IQ w0 fn sv Bs l D (ss ++ [x]) W' /\ NC w0.heap.size W W' := by
  obtain ⟨q1, hq1⟩ : ∃ q1, q1 = x := ⟨_, rfl⟩
  subst hq1
  obtain ⟨v, hv, hrow, _⟩ := h.box
  have h' := h
  refine ⟨fn, #[.slice none 0 0, sv, .pointer (some ⟨Bs, 0, none⟩), undef, .slice none 0 0, undef, sv, encS q1, undef, undef, undef, undef, undef], AJ, Gx, by simpa [nD] using run_yield (P := Tryz.prog) (args := #[encS q1]) h.L rfl, roundIn_of_wpIn hfn ?_⟩
  have hv1 := hv
  have hL1 := h.L
  have hK1 := h.K
  have hrow1 := hrow
  have hb1 := h.below
  have hk1 := KeepsWalks.refl W
  have hbr := run_beginRound (P := Tryz.prog) hL1 rfl
  obtain ⟨W2, hW2⟩ : ∃ W2, W.putObj l (.loop { nD fn sv Bs D .ready none with state := .busy }) = W2 := ⟨_, rfl⟩
  rw [hW2] at hbr
  have hl1 : l < W.heap.size := (bq.1 hL1).1
  have hg2 : W.grownBy W2 (some l) := by rw [<- hW2]; exact grownBy_putObj_a _ _ _
  have hk2 : KeepsWalks W W2 := hk1.trans (by rw [<- hW2]; exact KeepsWalks.putObj _ hL1 rfl)
  have hv2 : W2.heap[Bs]? = some (.cells #[v] 24 (0, 0)) := by rw [<- hW2]; exact (World.putObj_heap_other hBl).trans hv1
  have hK2 : W2.heap[D]? = some (.deferred (some [])) := by rw [<- hW2]; exact (World.putObj_heap_other hDl).trans hK1
  have hL2 : W2.heap[l]? = some (.loop { nD fn sv Bs D .ready none with state := .busy }) := by rw [<- hW2]; exact World.putObj_heap_same hl1
  have hrow2 : W2.ownsRow w0.heap.size 9 1 v ss.length (ss.flatMap pV) := hrow1.kept hg2 (ownsRow_ne_a hrow1 hL1 (fun cur e => by cases e))
  have hb2 : Below w0.heap.size w0 W2 := hb1.grown hg2 hb1.size (fun k e => by cases e; exact h0l)
  have hBlt : Bs < W2.heap.size := (bq.1 hv2).1
  have hl2 : l < W2.heap.size := (bq.1 hL2).1
  have hDlt : D < W2.heap.size := (bq.1 hK2).1
  obtain ⟨hc2, hf2⟩ := cell_of_box_a hv2
  have qC : ∀ {j : Nat} {o : Obj}, W2.heap[j]? = some o -> (∀ cur, o ≠ .cells cur 9 (0, 0)) -> some j ≠ v.ownBlock := fun hj hno => by
    rcases ownsRow_ne_a hrow2 hj hno with e | e
    · rw [e]; simp
    · exact fun e' => e e'.symm
  clear hW2
  simp only [AJ, Ld, Tryz.f167, encS]
  gi_wp2_with (rw [Oper.semAt_eq _ _ _ (fun c h => by cases h)]; go_simp; try go_bits)
  simp only [Gx, Lc, Tryz.f167]
  gi_wp2_with (first
    | (gi_at_builtin; refine wpListIn_append_own _ rfl _ _ 24 rfl w0.heap.size 9 _ (.string ⟨#[]⟩) 1 16 Tryz.underlying24 Tryz.type9 rfl rfl rfl rfl (by decide) _ _ _ rfl (hrow2.alloc _) ⟨W2.heap.size, 0, none⟩ 1 1 [.string q1] rfl rfl (cell_one_new _ _ _) (by simp [Value.oneCell']) (by omega) (by omega) (by have := hb2.size; simp; omega) ?_; intro v' w3 hown' hg3 hnil3
       have hv3 : w3.heap[Bs]? = some (.cells #[v] 24 (0, 0)) := (hg3.block Bs (by simp; omega) (qC hv2 (fun cur e => by cases e))).trans ((Below.heap_alloc _ _ Bs hBlt).trans hv2)
       obtain ⟨hc3, hf3⟩ := cell_of_box_a hv3
       obtain ⟨g', cap', cur', rfl, hbase', hgb', hr1, hr2, hr3, hr4⟩ : ∃ g' cap' cur', v' = .slice (some ⟨g', 0, none⟩) (ss.length + 1) cap' /\ w0.heap.size <= g' /\ w3.heap[g']? = some (.cells cur' 9 (0, 0)) /\ ss.length + 1 <= cap' /\ cap' <= maxLen /\ cur'.size = cap' * 1 /\ cur'.toList.take ((ss.length + 1) * 1) = ss.flatMap pV ++ [.string q1] := by
         rcases hown'.2 with ⟨_, h0⟩ | h'
         · exact absurd h0 (by omega)
         · exact h'
       go_frame)
    | (rw [Oper.semAt_eq _ _ _ (fun c h => by cases h)]; go_simp; try go_bits))
  have hg3' : (W2.alloc (.cells #[.string q1] 9)).grownBy w3 v.ownBlock := hg3
  have hL3 : w3.heap[l]? = some (.loop { nD fn sv Bs D .ready none with state := .busy }) := (hg3'.block l (by simp; omega) (qC hL2 (fun cur e => by cases e))).trans ((Below.heap_alloc _ _ l hl2).trans hL2)
  have hK3 : w3.heap[D]? = some (.deferred (some [])) := (hg3'.block D (by simp; omega) (qC hK2 (fun cur e => by cases e))).trans ((Below.heap_alloc _ _ D hDlt).trans hK2)
  obtain ⟨w4, hw4⟩ : ∃ w4, w3.setCell ⟨Bs, 0, none⟩ (.slice (some ⟨g', 0, none⟩) (ss.length + 1) cap') = w4 := ⟨_, rfl⟩
  rw [hw4]
  have hg4 : w3.grownBy w4 (some Bs) := by rw [<- hw4]; exact grownBy_setCell0_a _ _ _
  have hv4 : w4.heap[Bs]? = some (.cells #[.slice (some ⟨g', 0, none⟩) (ss.length + 1) cap'] 24 (0, 0)) := by rw [<- hw4]; exact heap_setCell_box_a _ hv3
  have hL4 : w4.heap[l]? = some (.loop { nD fn sv Bs D .ready none with state := .busy }) := (hg4.block l (bq.1 hL3).1 (fun e => hBl (by cases e; rfl))).trans hL3
  have hK4 : w4.heap[D]? = some (.deferred (some [])) := (hg4.block D (bq.1 hK3).1 (fun e => hDB (by cases e; rfl))).trans hK3
  have hrow4 := hown'.kept hg4 (ownsRow_ne_a hown' hv3 (fun cur e => by cases e))
  have hl4 : l < w4.heap.size := (bq.1 hL4).1
  have hb3 : Below w0.heap.size w0 w3 := (hb2.alloc hb2.size _).grown hg3' (by have := hb2.size; simp; omega) (fun k e => (hrow2.lt k e).1)
  have hb4 : Below w0.heap.size w0 w4 := hb3.grown hg4 hb3.size (fun k e => by cases e; exact h0B)
  have hk4 : KeepsWalks W w4 := ((hk2.trans (KeepsWalks.alloc _ _)).trans (KeepsWalks.of_grownBy hg3' (ownsRow_not_walk_a (hrow2.alloc _)))).trans (by rw [<- hw4]; exact KeepsWalks.setCell _ _ _)
  clear hw4
  have hb5 := hb4.grown (grownBy_putObj_a w4 l (.loop { { nD fn sv Bs D .ready none with state := .busy } with state := if (none : Option Code).isNone then .ready else .done, pending := none })) hb4.size (fun k e => by cases e; exact h0l)
  have hk5 := hk4.trans (KeepsWalks.putObj (.loop { { nD fn sv Bs D .ready none with state := .busy } with state := if (none : Option Code).isNone then .ready else .done, pending := none }) hL4 rfl)
  refine ⟨_, _, run_endRound none hL4, rfl, ⟨⟨_, (World.putObj_heap_other hBl).trans hv4, ?_, by simp⟩, World.putObj_heap_same hl4, (World.putObj_heap_other hDl).trans hK4, hb5⟩, hk5, Ff h'.below hb5 hk5.size⟩
  have := hrow4.kept (grownBy_putObj_a w4 l (.loop { { nD fn sv Bs D .ready none with state := .busy } with state := if (none : Option Code).isNone then .ready else .done, pending := none })) (ownsRow_ne_a hrow4 hL4 (fun cur e => by cases e))
  simpa [pV] using this
set_option maxRecDepth 100000 in
theorem Ka (F : Fence) (n : Nat) (hF : F.fn 167) (hro : F.round = none) (hn : 2 <= n) (g : Nat) (lb : Array Value) (hFg : F.fn g) (eg : ∀ args w, (callFunc g args).run Tryz.prog w = .ok (.enter g args) w)
    (S : List (ByteArray) -> Prop) (N : Nat) (hN : N <= maxLen) (hNb : N * 16 <= 140737488355328) (w : World) (hseq : SeqStopsK F (n - 1) Tryz.prog g lb (fun x => #[encS x]) (NC w.heap.size) S (fun _ => True) N w) :
    CallsIn F n Tryz.prog 167 #[.slice none 0 0, .func (.func g) #[] lb] w fun e w' => ∃ (v : Value) (ss : List (ByteArray)), e = .returned v /\ S ss /\ w'.ownsRow w.heap.size 9 1 v ss.length (ss.flatMap pV) /\ (v = .slice none 0 0 ↔ ss = []) /\ Below w.heap.size w w' := by
  have h1 : 1 <= n := by omega
  refine callsIn_of_wp_marks Tryz.func167 rfl hF ?_ hro
  simp only [Tryz.ntmps167, l7, af, b8, reduceAdd, reduceSub, k8, k9, mq, l8, cq, dy]
  gi_wp2
  refine wpIn_rangeFunc ?_
  intro fn hfn
  rw [hro]
  obtain ⟨W0, hW0⟩ : ∃ W0, w.alloc (.cells #[.slice none 0 0] 24) = W0 := ⟨_, rfl⟩
  have hs0 : W0.heap.size = w.heap.size + 1 := by rw [<- hW0]; simp
  have hv0 : W0.heap[w.heap.size]? = some (.cells #[.slice none 0 0] 24 (0, 0)) := by rw [<- hW0]; exact World.alloc_heap_new w _
  have hb0 : Below w.heap.size w W0 := by rw [<- hW0]; exact (Below.refl _ w).alloc (ae _) _
  rw [hW0]
  obtain ⟨W1, hW1⟩ : ∃ W1, (W0.alloc (.deferred (some []))).alloc (.loop (nD fn (.func (.func g) #[] lb) w.heap.size W0.heap.size .ready none)) = W1 := ⟨_, rfl⟩
  have hold : ∀ k, k < W0.heap.size -> W1.heap[k]? = W0.heap[k]? := fun k hk => by
    rw [<- hW1]; exact (Below.heap_alloc _ _ k (by simp; omega)).trans (Below.heap_alloc _ _ k hk)
  have hb1 : Below w.heap.size w W1 := by rw [<- hW1]; exact (hb0.alloc hb0.size _).alloc (by have := hb0.size; simp; omega) _
  have hM : IQ w fn (.func (.func g) #[] lb) w.heap.size (W0.heap.size + 1) W0.heap.size [] W1 :=
    ⟨⟨_, (hold w.heap.size (by omega)).trans hv0, ⟨rfl, .inl ⟨rfl, rfl⟩⟩, by simp⟩,
     by rw [<- hW1]; have := World.alloc_heap_new (W0.alloc (.deferred (some []))) (.loop (nD fn (.func (.func g) #[] lb) w.heap.size W0.heap.size .ready none)); rwa [World.size_alloc] at this,
     by rw [<- hW1]; exact (Below.heap_alloc _ _ _ (by simp)).trans (World.alloc_heap_new W0 _), hb1⟩
  refine ⟨W0.heap.size + 1, [{ target := .collected W0.heap.size, args := #[] }], W1, { target := .fn (.func g) lb, args := #[.func (.yield (W0.heap.size + 1)) #[] #[]] }, W1, g,
    #[.func (.yield (W0.heap.size + 1)) #[] #[]] ++ lb, W1, ?_, ?_, ?_, ?_, fun _ => h1, ?_⟩
  · rw [<- hW1]; exact run_enterLoop_outer _ _ _ _ _
  · simp [resolve, go_sem]
  · intro f' hf'; simp [Target.leads] at hf'; subst hf'; exact hFg
  · simp [invoke, go_sem, eg]
  · refine (hseq (W0.heap.size + 1) (IQ w fn (.func (.func g) #[] lb) w.heap.size (W0.heap.size + 1) W0.heap.size) (fun _ _ => False) W1 hb1 (Kc _ _ _ _ _ _ _ hb1.size) (fun _ _ _ _ h _ _ => h)
      (fun pre x W hJ hl => by
        obtain ⟨fn', tmps, assign, body, hy, hR⟩ := QH F (n - 1 - 1) w fn hfn _ w.heap.size (W0.heap.size + 1) W0.heap.size (by omega) (by omega) (by omega) (ae _) (by omega) N hN hNb pre x W hJ hl
        exact ⟨fn', tmps, assign, body, hy, hR.mono fun e W' h => .inl h⟩) hM).mono ?_
    rintro e W2 ⟨⟨v0, rfl⟩, ⟨ss, hS, h2⟩ | ⟨_, _, hf⟩⟩
    case inr => exact hf.elim
    obtain ⟨v, hv, hrow, hnil⟩ := h2.box
    have hend := run_endLoop (P := Tryz.prog) h2.L (by simp [nD])
    obtain ⟨W3, hW3⟩ : ∃ W3, W2.putObj (W0.heap.size + 1) (.loop { nD fn (.func (.func g) #[] lb) w.heap.size W0.heap.size .ready none with state := .exhausted }) = W3 := ⟨_, rfl⟩
    rw [hW3] at hend
    have hg3 : W2.grownBy W3 (some (W0.heap.size + 1)) := by rw [<- hW3]; exact grownBy_putObj_a _ _ _
    have hv3 : W3.heap[w.heap.size]? = some (.cells #[v] 24 (0, 0)) := by rw [<- hW3]; exact (World.putObj_heap_other (by omega)).trans hv
    have hK3 : W3.heap[W0.heap.size]? = some (.deferred (some [])) := by rw [<- hW3]; exact (World.putObj_heap_other (by omega)).trans h2.K
    have hrow3 := hrow.kept hg3 (ownsRow_ne_a hrow h2.L (fun cur e => by cases e))
    have hb3 : Below w.heap.size w W3 := h2.below.grown hg3 h2.below.size (fun k e => by cases e; omega)
    obtain ⟨hc3, hf3⟩ := cell_of_box_a hv3
    clear hW3
    refine ⟨none, W3, hend, ?_⟩
    gi_wp2
    rw [<- hs0]
    refine ⟨by simp, .inl ⟨_, _, rfl, run_takeDeferred hK3, ?_⟩⟩
    exact ⟨_, results_tmp rfl _ _ _, v, ss, rfl, hS, hrow3.kept (grownBy_putObj_a _ _ _) (ownsRow_ne_a hrow3 hK3 (fun cur e => by cases e)), hnil, hb3.grown (grownBy_putObj_a _ _ _) hb3.size (fun k e => by cases e; omega)⟩
theorem P6 (F:Fence) (n:Nat)(hC:F.fn 126)(hF:F.fn 167)(hro:F.round=none)(hn:3<=n) (g:Nat) (lb:Array Value)(hFg:F.fn g) (eg:∀args w,(callFunc g args).run Tryz.prog w=.ok (.enter g args) w)
  (S:List (ByteArray)->Prop) (N:Nat)(hN:N<=maxLen)(hNb:N*16<=140737488355328) (w:World)(hseq:SeqStopsK F (n-1-1) Tryz.prog g lb (λx=>#[encS x]) (NC w.heap.size) S (λ_=>True) N w) :
  CallsIn F n Tryz.prog 126 #[.func (.func g) #[] lb] w λe w'=>∃(v:Value) (ss:List (ByteArray)),e=.returned v/\S ss/\w'.ownsRow w.heap.size 9 1 v ss.length (ss.flatMap pV)/\(v=.slice none 0 0 ↔ ss=[])/\Below w.heap.size w w':=by
 have h1:1<=n:=by omega
 refine callsIn_of_wp Tryz.func126 rfl hC ?_ hro
 simp only[Tryz.ntmps126,l7,af,b8,reduceAdd,reduceSub,k8,k9,mq,l8,cq,dy]
 gi_wp2_with (gi_at_call 167;refine (Ka F (n-1) hF hro (by omega) g lb hFg eg S N hN hNb _ hseq).mono ?_;rintro e w' ⟨v,ss,rfl,hS,hrow,hnil,hb⟩)
 go_ret
 exact⟨v,ss,rfl,hS,hrow,hnil,hb⟩
end Go.AxC
end
section
namespace Go.Proofs
open Go.Shelf
def Tryz.sort73_ren:Go.Shelf.Ren:=⟨fun | 6=>73 | 8=>120 | 9=>119 | 19=>165 | 20=>166 | 21=>156 | 22=>157 | 23=>158 | 24=>159 | 25=>160 | 26=>161 | 27=>162 | 28=>163 | 29=>164 | 36=>187 | 31=>188 | 32=>189 | 37=>190 | 38=>191 | 39=>183 | 41=>224 | n=>n,fun | 27=>24 | 29=>9 | 3=>3 | 32=>148 | 26=>24 | 0=>0 | 44=>183 | 46=>185 | 4=>4 | 36=>176 | 35=>175 | 41=>130 | 5=>5 | 9=>9 | 53=>207 | 57=>211 | 63=>237 | 64=>238 | n=>n,fun | n=>n⟩
theorem Tryz.sort73:Go.Proofs.SlLaysM.n6 Tryz.prog Tryz.sort73_ren:={
 mixed:=by kernel_rfl
 f6:=⟨Tryz.f73.name,by decide,Tryz.func73.trans (au some (by kernel_rfl))⟩
 f8:=Tryz.func120.trans (au some (by kernel_rfl))
 f9:=⟨Tryz.f119.name,by decide,Tryz.func119.trans (au some (by kernel_rfl))⟩
 f19:=Tryz.func165.trans (au some (by kernel_rfl))
 f20:=Tryz.func166.trans (au some (by kernel_rfl))
 f21:=⟨Tryz.f156.name,by decide,Tryz.func156.trans (au some (by kernel_rfl))⟩
 f22:=⟨Tryz.f157.name,by decide,Tryz.func157.trans (au some (by kernel_rfl))⟩
 f23:=⟨Tryz.f158.name,by decide,Tryz.func158.trans (au some (by kernel_rfl))⟩
 f24:=⟨Tryz.f159.name,by decide,Tryz.func159.trans (au some (by kernel_rfl))⟩
 f25:=⟨Tryz.f160.name,by decide,Tryz.func160.trans (au some (by kernel_rfl))⟩
 f26:=⟨Tryz.f161.name,by decide,Tryz.func161.trans (au some (by kernel_rfl))⟩
 f27:=⟨Tryz.f162.name,by decide,Tryz.func162.trans (au some (by kernel_rfl))⟩
 f28:=⟨Tryz.f163.name,by decide,Tryz.func163.trans (au some (by kernel_rfl))⟩
 f29:=⟨Tryz.f164.name,by decide,Tryz.func164.trans (au some (by kernel_rfl))⟩
 f31:=Tryz.func188.trans (au some (by kernel_rfl))
 f32:=Tryz.func189.trans (au some (by kernel_rfl))
 f36:=⟨Tryz.f187.name,by decide,Tryz.func187.trans (au some (by kernel_rfl))⟩
 f37:=⟨Tryz.f190.name,by decide,Tryz.func190.trans (au some (by kernel_rfl))⟩
 f38:=⟨Tryz.f191.name,by decide,Tryz.func191.trans (au some (by kernel_rfl))⟩
 f39:=⟨Tryz.f183.name,by decide,Tryz.func183.trans (au some (by kernel_rfl))⟩
 f41:=⟨Tryz.f224.name,by decide,Tryz.func224.trans (au some (by kernel_rfl))⟩
 t0:=Tryz.underlying0
 a0:=Tryz.isAgg0
 z0:=Tryz.sizeOf0
 v0:=Tryz.zeroValue0
 t3:=Tryz.underlying3
 a3:=Tryz.isAgg3
 z3:=Tryz.sizeOf3
 v3:=Tryz.zeroValue3
 t4:=Tryz.underlying4
 a4:=Tryz.isAgg4
 z4:=Tryz.sizeOf4
 v4:=Tryz.zeroValue4
 t5:=Tryz.underlying5
 a5:=Tryz.isAgg5
 z5:=Tryz.sizeOf5
 v5:=Tryz.zeroValue5
 t9:=Tryz.underlying9
 a9:=Tryz.isAgg9
 z9:=Tryz.sizeOf9
 v9:=Tryz.zeroValue9
 t26:=Tryz.underlying24
 a26:=Tryz.isAgg24
 z26:=Tryz.sizeOf24
 v26:=Tryz.zeroValue24
 t27:=Tryz.underlying24
 a27:=Tryz.isAgg24
 z27:=Tryz.sizeOf24
 v27:=Tryz.zeroValue24
 t29:=Tryz.underlying9
 a29:=Tryz.isAgg9
 z29:=Tryz.sizeOf9
 v29:=Tryz.zeroValue9
 t32:=Tryz.underlying148
 a32:=Tryz.isAgg148
 z32:=Tryz.sizeOf148
 v32:=Tryz.zeroValue148
 t35:=Tryz.underlying175
 a35:=Tryz.isAgg175
 z35:=Tryz.sizeOf175
 v35:=Tryz.zeroValue175
 t36:=Tryz.underlying176
 a36:=Tryz.isAgg176
 z36:=Tryz.sizeOf176
 v36:=Tryz.zeroValue176
 t41:=Tryz.underlying130
 a41:=Tryz.isAgg130
 z41:=Tryz.sizeOf130
 v41:=Tryz.zeroValue130
 t44:=Tryz.underlying183
 a44:=Tryz.isAgg183
 z44:=Tryz.sizeOf183
 v44:=Tryz.zeroValue183
 t46:=Tryz.underlying185
 a46:=Tryz.isAgg185
 z46:=Tryz.sizeOf185
 v46:=Tryz.zeroValue185
 t53:=Tryz.underlying207
 a53:=Tryz.isAgg207
 z53:=Tryz.sizeOf207
 v53:=Tryz.zeroValue207
 t57:=Tryz.underlying211
 a57:=Tryz.isAgg211
 z57:=Tryz.sizeOf211
 v57:=Tryz.zeroValue211
 t63:=Tryz.underlying237
 a63:=Tryz.isAgg237
 z63:=Tryz.sizeOf237
 v63:=Tryz.zeroValue237
 t64:=Tryz.underlying238
 a64:=Tryz.isAgg238
 z64:=Tryz.sizeOf238
 v64:=Tryz.zeroValue238 }
def Tryz.sort147_ren:Go.Shelf.Ren:=⟨fun | 6=>147 | 15=>120 | 14=>182 | 28=>165 | 29=>166 | 20=>214 | 21=>215 | 22=>216 | 23=>217 | 24=>218 | 25=>219 | 26=>220 | 27=>221 | 46=>251 | 47=>188 | 48=>189 | 49=>252 | 50=>253 | 57=>292 | n=>n,fun | 22=>23 | 24=>51 | 25=>140 | 3=>3 | 39=>148 | 0=>0 | 53=>183 | 55=>185 | 4=>4 | 46=>176 | 45=>175 | 50=>130 | 5=>5 | 9=>9 | 66=>207 | 70=>211 | 76=>237 | 77=>238 | n=>n,fun | n=>n⟩
theorem Tryz.sort147:Go.Proofs.SlLaysF0.n6 Tryz.prog Tryz.sort147_ren:={
 mixed:=by kernel_rfl
 f6:=⟨Tryz.f147.name,by decide,Tryz.func147.trans (au some (by kernel_rfl))⟩
 f14:=⟨Tryz.f182.name,by decide,Tryz.func182.trans (au some (by kernel_rfl))⟩
 f15:=Tryz.func120.trans (au some (by kernel_rfl))
 f20:=⟨Tryz.f214.name,by decide,Tryz.func214.trans (au some (by kernel_rfl))⟩
 f21:=⟨Tryz.f215.name,by decide,Tryz.func215.trans (au some (by kernel_rfl))⟩
 f22:=⟨Tryz.f216.name,by decide,Tryz.func216.trans (au some (by kernel_rfl))⟩
 f23:=⟨Tryz.f217.name,by decide,Tryz.func217.trans (au some (by kernel_rfl))⟩
 f24:=⟨Tryz.f218.name,by decide,Tryz.func218.trans (au some (by kernel_rfl))⟩
 f25:=⟨Tryz.f219.name,by decide,Tryz.func219.trans (au some (by kernel_rfl))⟩
 f26:=⟨Tryz.f220.name,by decide,Tryz.func220.trans (au some (by kernel_rfl))⟩
 f27:=⟨Tryz.f221.name,by decide,Tryz.func221.trans (au some (by kernel_rfl))⟩
 f28:=Tryz.func165.trans (au some (by kernel_rfl))
 f29:=Tryz.func166.trans (au some (by kernel_rfl))
 f46:=⟨Tryz.f251.name,by decide,Tryz.func251.trans (au some (by kernel_rfl))⟩
 f47:=Tryz.func188.trans (au some (by kernel_rfl))
 f48:=Tryz.func189.trans (au some (by kernel_rfl))
 f49:=⟨Tryz.f252.name,by decide,Tryz.func252.trans (au some (by kernel_rfl))⟩
 f50:=⟨Tryz.f253.name,by decide,Tryz.func253.trans (au some (by kernel_rfl))⟩
 f57:=⟨Tryz.f292.name,by decide,Tryz.func292.trans (au some (by kernel_rfl))⟩
 t0:=Tryz.underlying0
 a0:=Tryz.isAgg0
 z0:=Tryz.sizeOf0
 v0:=Tryz.zeroValue0
 t3:=Tryz.underlying3
 a3:=Tryz.isAgg3
 z3:=Tryz.sizeOf3
 v3:=Tryz.zeroValue3
 t4:=Tryz.underlying4
 a4:=Tryz.isAgg4
 z4:=Tryz.sizeOf4
 v4:=Tryz.zeroValue4
 t5:=Tryz.underlying5
 a5:=Tryz.isAgg5
 z5:=Tryz.sizeOf5
 v5:=Tryz.zeroValue5
 t9:=Tryz.underlying9
 a9:=Tryz.isAgg9
 z9:=Tryz.sizeOf9
 v9:=Tryz.zeroValue9
 t22:=Tryz.underlying23
 a22:=Tryz.isAgg23
 z22:=Tryz.sizeOf23
 v22:=Tryz.zeroValue23
 t25:=Tryz.underlying140
 a25:=Tryz.isAgg140
 z25:=Tryz.sizeOf140
 v25:=Tryz.zeroValue140
 t39:=Tryz.underlying148
 a39:=Tryz.isAgg148
 z39:=Tryz.sizeOf148
 v39:=Tryz.zeroValue148
 t45:=Tryz.underlying175
 a45:=Tryz.isAgg175
 z45:=Tryz.sizeOf175
 v45:=Tryz.zeroValue175
 t46:=Tryz.underlying176
 a46:=Tryz.isAgg176
 z46:=Tryz.sizeOf176
 v46:=Tryz.zeroValue176
 t50:=Tryz.underlying130
 a50:=Tryz.isAgg130
 z50:=Tryz.sizeOf130
 v50:=Tryz.zeroValue130
 t53:=Tryz.underlying183
 a53:=Tryz.isAgg183
 z53:=Tryz.sizeOf183
 v53:=Tryz.zeroValue183
 t55:=Tryz.underlying185
 a55:=Tryz.isAgg185
 z55:=Tryz.sizeOf185
 v55:=Tryz.zeroValue185
 t66:=Tryz.underlying207
 a66:=Tryz.isAgg207
 z66:=Tryz.sizeOf207
 v66:=Tryz.zeroValue207
 t70:=Tryz.underlying211
 a70:=Tryz.isAgg211
 z70:=Tryz.sizeOf211
 v70:=Tryz.zeroValue211
 t76:=Tryz.underlying237
 a76:=Tryz.isAgg237
 z76:=Tryz.sizeOf237
 v76:=Tryz.zeroValue237
 t77:=Tryz.underlying238
 a77:=Tryz.isAgg238
 z77:=Tryz.sizeOf238
 v77:=Tryz.zeroValue238 }
end Go.Proofs
end
section
namespace Go.AxC
open Go Go.Proofs Go.Ax Go.RowKit Go.Maps Go.Sort Go.Shelf
def Ci (s t:ByteArray):Int:=match Op.bytesLess s.toList t.toList with
 |true=>-1
 |false=>match Op.bytesLess t.toList s.toList with
  |true=>1
  |false=>0
def C4 (x y:Bool × ByteArray):Int:=match x.1,y.1 with
 |true,false=>1
 |false,true=>-1
 |_,_=>Ci x.2 y.2
theorem Sj (s:ByteArray) (w:World):Calls Tryz.prog 183 #[.string s] w λe w'=>e=.returned (.bool false)/\w'=w:=by
 go_enter Tryz.func183,Tryz.ntmps183
 go_wp2
 go_ret
 exact⟨rfl,rfl⟩
theorem BS:∀a b:List UInt8,(!Op.bytesLess a b && !(a==b))=Op.bytesLess b a
 | [],[]=>by decide
 | [],b::y=>by simp[Op.bytesLess]
 |a::x,[]=>by simp[Op.bytesLess]
 |a::x,b::y=>by
  have ih:=BS x y
  simp only[Op.bytesLess,List.cons_beq_cons]
  rcases jn a.toNat b.toNat with h | h | h
  ·have h1:a<b:=nr.2 h
   have h2:¬ b<a:=λe=>by have:=nr.1 e;omega
   have h3:¬ b=a:=λe=>by subst e;omega
   simp[h1,h2,h3]
  ·have h0:a=b:=UInt8.toNat_inj.1 h
   subst h0
   have h2:¬ a<a:=λe=>by have:=nr.1 e;omega
   simp only[h2,decide_false,BEq.rfl,jf,Bool.false_or]
   exact ih
  ·have h1:b<a:=nr.2 h
   have h2:¬ a<b:=λe=>by have:=nr.1 e;omega
   have h3:¬ a=b:=λe=>by subst e;omega
   simp[h1,h2,h3]
theorem Mj (s t:ByteArray) (w:World):(binOp .gtr 9 (.string s) (.string t)).run Tryz.prog w=.ok (.bool (Op.bytesLess t.toList s.toList)) w:=by
 simp only[binOp]
 simp only[Op.stringOp,Bool.not_or,BS]
 rfl
theorem Na (s t:ByteArray) (w:World):Calls Tryz.prog 149 #[.string s,.string t] w λe w'=>e=.returned (.int .i64 (Ci s t))/\w'=w:=by
 have hg:=Mj s t w
 go_enter Tryz.func149,Tryz.ntmps149
 go_wp2_with (go_at_call 183;refine (Sj _ _).mono ?_;rintro e w' ⟨rfl,rfl⟩)
 all_goals go_ret
 all_goals refine⟨?_,rfl⟩
 all_goals simp[Ci, *]
theorem RG (x y : Bool × ByteArray) (w : World) : Calls Tryz.prog 109 #[qR x, qR y] w fun e w' => e = .returned (.int .i64 (C4 x y)) /\ ∃ os, w' = grow w os := by
  obtain ⟨x1, x2⟩ := x
  obtain ⟨y1, y2⟩ := y
  suffices h : Calls Tryz.prog 109 #[.agg #[.bool x1, .string x2], .agg #[.bool y1, .string y2]] w fun e w' => e = .returned (.int .i64 (C4 (x1, x2) (y1, y2))) /\ w' = grow w #[.cells #[.bool x1, .string x2] 51, .cells #[.bool y1, .string y2] 51] from h.mono fun e w' ⟨h1, h2⟩ => ⟨h1, _, h2⟩
  have hw : grow w #[.cells #[.bool x1, .string x2] 51, .cells #[.bool y1, .string y2] 51] = (w.alloc (.cells #[.bool x1, .string x2] 51)).alloc (.cells #[.bool y1, .string y2] 51) := by
    simp only [alloc_eq_grow, grow_grow]; rfl
  rw [hw]
  clear hw
  cases x1 <;> cases y1 <;>
  (go_enter Tryz.func109, Tryz.ntmps109
   go_wp2_with (go_at_call 149; refine (Na _ _ _).mono ?_; rintro e w' ⟨rfl, rfl⟩)
   go_ret
   exact ⟨rfl, rfl⟩)
end Go.AxC
end
section
namespace Go.AxC
open Go Go.Proofs Go.Ax Go.RowKit Go.Sort
section
structure QM {α:Type} (lt:α->α->Bool):Prop where
 irrefl:∀x,lt x x=false
 trans:∀x y z,lt x y=true->lt y z=true->lt x z=true
 total:∀x y,lt x y=false->lt y x=false->x=y
section
variable {α:Type}{lt:α->α->Bool}
theorem QM.asymm (h:QM lt) {x y:α}(hx:lt x y=true):lt y x=false:=by
 cases hy:lt y x with
 |false=>rfl
 |true=>have:=h.trans _ _ _ hx hy;rw[h.irrefl]at this;cases this
theorem QM.swo (h:QM lt):SWO lt:=by
 refine⟨h.irrefl,h.trans,λx y z h1 h2=>?_⟩
 cases h3:lt x z with
 |false=>rfl
 |true=>
  cases h4:lt z y with
  |true=>have:=h.trans _ _ _ h3 h4;rw[h1]at this;cases this
  |false=>
   have:=h.total _ _ h2 h4
   subst this
   rw[h1]at h3;cases h3
def Bw (lt:α->α->Bool) (x:α):List α->List α
 | []=>[x]
 |y::r=>if lt x y then x::y::r else y::Bw lt x r
def iM (lt:α->α->Bool) (l:List α):List α:=l.foldl (λacc x=>Bw lt x acc) []
def Tu (lt:α->α->Bool) (l:List α):Prop:=l.Pairwise λx y=>lt y x=false
theorem As (x:α):∀l,(Bw lt x l).Perm (x::l)
 | []=>.refl _
 |y::r=>by
  simp only[Bw]
  split
  ·exact .refl _
  ·exact ((As x r).cons y).trans (.swap x y r)
theorem HY (h:QM lt) (x:α):∀l,Tu lt l->Tu lt (Bw lt x l)
 | [],_=>by simp[Bw,Tu]
 |y::r,hs=>by
  rw[Tu,jz]at hs
  obtain⟨h1,h2⟩:=hs
  simp only[Bw]
  split
  ·rename_i hxy
   refine jz.2 ⟨λz hz=>?_,jz.2 ⟨h1,h2⟩⟩
   rcases IN.1 hz with rfl | hz
   ·exact h.asymm hxy
   ·cases hzx:lt z x with
    |false=>rfl
    |true=>have:=h.trans _ _ _ hzx hxy;rw[h1 z hz]at this;cases this
  ·rename_i hxy
   refine jz.2 ⟨λz hz=>?_,HY h x r h2⟩
   rcases IN.1 ((As x r).mem_iff.1 hz) with rfl | hz
   ·simpa using hxy
   ·exact h1 z hz
theorem Dg:∀(l acc:List α),(l.foldl (λacc x=>Bw lt x acc) acc).Perm (acc++l)
 | [],acc=>by simp
 |x::l,acc=>by
  refine (Dg l _).trans ?_
  refine ((As x acc).append_right l).trans ?_
  exact jr.symm
theorem lE (l:List α):(iM lt l).Perm l:=by
 have:=Dg (lt:=lt) l []
 rw[cq]at this
 exact this
theorem E6 (h:QM lt):∀(l acc:List α),Tu lt acc->Tu lt (l.foldl (λacc x=>Bw lt x acc) acc)
 | [],acc,ha=>ha
 |x::l,acc,ha=>E6 h l _ (HY h x acc ha)
theorem uZ (h:QM lt) (l:List α):Tu lt (iM lt l):=E6 h l [] List.Pairwise.nil
theorem Uc (h:QM lt) {l l':List α}(hp:l.Perm l')(h1:Tu lt l)(h2:Tu lt l'):l=l':=
 List.Perm.eq_of_pairwise (le:=λx y=>lt y x=false) (λa b _ _ ha hb=>h.total _ _ hb ha) h1 h2 hp
theorem G1 (h:QM lt) {l l':List α}(hp:l.Perm l'):iM lt l=iM lt l':=Uc h ((lE l).trans (hp.trans (lE l').symm)) (uZ h l) (uZ h l')
theorem HX {lk:List V->List V->Bool} (abs:α->List V) (x:α):∀l,C_ lk (abs x) (l.map abs)=(Bw (λx y=>lk (abs x) (abs y)) x l).map abs
 | []=>rfl
 |y::r=>by
  simp only[bl,C_,Bw]
  split
  ·rfl
  ·simp only[bl,HX abs x r]
theorem E5 {lk:List V->List V->Bool} (abs:α->List V):∀(l acc:List α),(l.map abs).foldl (λacc x=>C_ lk x acc) (acc.map abs)=(l.foldl (λacc x=>Bw (λx y=>lk (abs x) (abs y)) x acc) acc).map abs
 | [],_=>rfl
 |x::l,acc=>by
  simp only[bl,lj,HX]
  exact E5 abs l _
theorem zY {lk:List V->List V->Bool} (abs:α->List V) (l:List α):kY lk (l.map abs)=(iM (λx y=>lk (abs x) (abs y)) l).map abs:=E5 abs l []
end
def oS (x:ByteArray):List V:=[.str (Ax.bytes x)]
def AO (x:Bool × ByteArray):List V:=[.bool x.1,.str (Ax.bytes x.2)]
def D7 (x y:ByteArray):Bool:=strLt (oS x) (oS y)
def La (x y:Bool × ByteArray):Bool:=rF (AO x) (AO y)
theorem A9 (a:List UInt8):Op.bytesLess a a=false:=by
 have:=BS a a
 simpa using this.symm
theorem wZ (a b c:List UInt8)(h1:Op.bytesLess a b=true)(h2:Op.bytesLess b c=true):Op.bytesLess a c=true:=by
 rw[bytesLess_eq]at *
 simp only[OF]at *
 exact List.lt_trans h1 h2
theorem w_ (a b:List UInt8)(h1:Op.bytesLess a b=false)(h2:Op.bytesLess b a=false):a=b:=by
 have:=BS a b
 rw[h1,h2]at this
 simpa using this
theorem toList_data (x:ByteArray):x.toList=x.data.toList:=by rw[ByteArray.toList_eq]
theorem CZ (x y:ByteArray):D7 x y=Op.bytesLess x.data.toList y.data.toList:=by
 show slt (Ax.bytes x) (Ax.bytes y)=_
 exact Ev _ _
theorem MV {x y:ByteArray}(h:x.data.toList=y.data.toList):x=y:=by
 cases x;cases y
 simp only[ByteArray.mk.injEq]
 exact Array.toList_inj.1 h
theorem NW:QM D7:=by
 refine⟨λx=>?_,λx y z h1 h2=>?_,λx y h1 h2=>?_⟩
 ·rw[CZ];exact A9 _
 ·rw[CZ]at *;exact wZ _ _ _ h1 h2
 ·rw[CZ]at *;exact MV (w_ _ _ h1 h2)
theorem F6 (x y:Bool × ByteArray):La x y=match x.1,y.1 with
  |false,true=>true
  |true,false=>false
  |_,_=>D7 x.2 y.2:=by
 obtain⟨a,x⟩:=x
 obtain⟨b,y⟩:=y
 cases a <;> cases b <;> rfl
theorem Jf:QM La:=by
 refine⟨λx=>?_,λx y z h1 h2=>?_,λx y h1 h2=>?_⟩
 ·rw[F6];obtain⟨a,x⟩:=x;cases a <;> exact NW.irrefl _
 ·rw[F6]at *
  obtain⟨a,x⟩:=x
  obtain⟨b,y⟩:=y
  obtain⟨c,z⟩:=z
  cases a <;> cases b <;> cases c <;> dsimp only at * <;> first | rfl | exact NW.trans _ _ _ h1 h2 | (cases h1;done) | (cases h2;done)
 ·rw[F6]at *
  obtain⟨a,x⟩:=x
  obtain⟨b,y⟩:=y
  cases a <;> cases b <;> dsimp only at * <;> first | (cases h1;done) | (cases h2;done) | (have:=NW.total _ _ h1 h2;subst this;rfl)
theorem C0:ltOf C4=La:=by
 funext x y
 rw[F6]
 obtain⟨a,x⟩:=x
 obtain⟨b,y⟩:=y
 have hs:decide (Ci x y<0)=D7 x y:=by
  rw[CZ]
  simp only[Ci,toList_data]
  cases Op.bytesLess x.data.toList y.data.toList <;> cases Op.bytesLess y.data.toList x.data.toList <;> rfl
 cases a <;> cases b <;> first | rfl | exact hs
theorem A6 (ss:List ByteArray):(ss.map λx=>x.data.toList).mergeSort (λx y=>decide (x<=y))=(iM D7 ss).map λx=>x.data.toList:=by
 have e:(λx y:List UInt8=>decide (x<=y))=λx y=>!Op.bytesLess y x:=by
  funext x y
  rw[bytesLess_eq]
  simp only[<- decide_not]
  congr 1
 rw[e]
 refine List.Perm.eq_of_pairwise (le:=λx y=>Op.bytesLess y x=false) (λa b _ _ ha hb=>w_ _ _ hb ha) ?_ ?_ ?_
 ·have:=List.pairwise_mergeSort (le:=λx y=>!Op.bytesLess y x) (λa b c h1 h2=>by
   simp only[gu]at *
   cases h:Op.bytesLess c a with
   |false=>rfl
   |true=>
    cases h3:Op.bytesLess b c with
    |true=>have:=wZ _ _ _ h3 h;rw[h1]at this;cases this
    |false=>have:=w_ _ _ h3 h2;subst this;rw[h1]at h;cases h) (λa b=>by
   cases h:Op.bytesLess b a with
   |false=>simp
   |true=>
    cases h2:Op.bytesLess a b with
    |false=>simp
    |true=>have:=wZ _ _ _ h h2;rw[A9]at this;cases this) (ss.map λx=>x.data.toList)
  exact this.imp (by simp)
 ·rw[List.pairwise_map]
  have:=uZ NW ss
  exact this.imp (λ{a b} h=>by rw[CZ]at h;exact h)
 ·exact (List.mergeSort_perm _ _).trans ((lE ss).symm.map _)
theorem HE (ss:List (Bool × ByteArray)):ss.mergeSort (λx y=>!La y x)=iM La ss:=by
 refine List.Perm.eq_of_pairwise (le:=λx y=>La y x=false) (λa b _ _ ha hb=>Jf.total _ _ hb ha) ?_ (uZ Jf ss) ((List.mergeSort_perm _ _).trans (lE ss).symm)
 have:=List.pairwise_mergeSort (le:=λx y=>!La y x) (λa b c h1 h2=>by
   simp only[gu]at *
   exact Jf.swo.ntrans _ _ _ h2 h1) (λa b=>by
   cases h:La b a with
   |false=>simp
   |true=>simp[Jf.asymm h]) ss
 exact this.imp (by simp)
end
end Go.AxC
end
section
namespace Go.AxC
open Go Go.Proofs Go.Ax Go.RowKit Go.Maps Go.Sort Go.Shelf
theorem Bf (x:ByteArray):encStr x.data.toList=encS x:=by
 cases x;simp[encStr,encS]
theorem Az (ss:List ByteArray):ss.flatMap pV=(ss.map λx=>x.data.toList).map encStr:=by
 induction ss with
 |nil=>rfl
 |cons x r ih=>simp only[jg,bl,ih,Bf];rfl
theorem Rl (w:World) (g:Nat) (lb:Array Value) (eg:∀args w,(callFunc g args).run Tryz.prog w=.ok (.enter g args) w)
  (S:List ByteArray->Prop) (N:Nat)(hN:N<=maxLen)(hNb:N*16<=140737488355328)(hSN:∀ss,S ss->ss.length<=N)(hseq:SeqStopsK Fence.wide 2 Tryz.prog g lb (λx=>#[encS x]) (NC w.heap.size) S (λ_=>True) N w) :
  Calls Tryz.prog 88 #[.func (.func g) #[] lb] w λe w'=>∃(v:Value) (ss:List ByteArray),e=.returned v/\S ss /\
   w'.ownsRow w.heap.size 9 1 v ss.length ((iM D7 ss).flatMap pV)/\(v=.slice none 0 0 ↔ ss=[])/\Below w.heap.size w w':=by
 have hC:=callsIn_wide.1 (P6 Fence.wide 4 trivial trivial rfl (by omega) g lb trivial eg S N hN hNb w hseq)
 go_enter Tryz.func88,Tryz.ntmps88
 go_wp2_with (go_at_call 126;refine hC.mono ?_;rintro e W ⟨v,ss,rfl,hS,hrow,hnil,hb⟩)
 rcases hrow.2 with⟨rfl,hz⟩ | ⟨gb,cap,cur,rfl,hbase,hgb,r1,r2,r3,r4⟩
 ·have hss:ss=[]:=List.eq_nil_of_length_eq_zero hz
  subst hss
  have hN:=AnyM.slices_Sort_string_none Tryz.sort73 none 0 W
  go_wp2_with (go_at_call 73;refine hN.mono ?_;rintro e w' ⟨rfl,rfl⟩)
  go_ret
  exact⟨.slice none 0 0,[],rfl,hS,by simpa [iM]using hrow,by simp,hb⟩
 ·have hH:Holds encStr W gb 0 (ss.map λx=>x.data.toList).toArray:=holds_of_block hgb (by rw[<- Az];simpa using r4)
  have hgl:gb<W.heap.size:=(bq.1 hgb).1
  have hsz:(ss.map λx=>x.data.toList).length<4611686018427387904:=by have:=hSN ss hS;simp;omega
  have cS:=AnyM.slices_Sort_string Tryz.sort73 gb 0 cap (ss.map λx=>x.data.toList) W hH hgl hsz
  rw[bg,A6]at cS
  go_wp2_with (go_at_call 73;refine cS.mono ?_;rintro e w' ⟨rfl,nn,os,rfl⟩)
  go_ret
  refine⟨_,ss,rfl,hS,?_,hnil,hb.grown (grownBy_sorted _) hb.size (λj hj=>by cases hj;exact hbase)⟩
  have hp:=(lE (lt:=D7) ss).length_eq
  have:=ownsRow_sorted (base:=w.heap.size) (ss:=ss.map λx=>x.data.toList) (ts:=(iM D7 ss).map λx=>x.data.toList) (n:=nn) (os:=os) (by simp[hp]) hbase hgb (by simpa using r1) r2 r3
  rw[Az]
  simpa using this
theorem pT:∀(l:List (Bool × ByteArray)) (t:Nat),t<l.length*2->(l.flatMap fE)[t]?=some (fE l[t / 2]!)[t % 2]!
 | [],t,h=>absurd h (by simp)
 |x::r,0,_=>rfl
 |x::r,1,_=>rfl
 |x::r,t+2,h=>by
  have ih:=pT r t (by simp at h;omega)
  have e1:(t+2) / 2=t / 2+1:=by omega
  have e2:(t+2) % 2=t % 2:=by omega
  rw[e1,e2]
  simpa [fE]using ih
theorem pS:∀l:List (Bool × ByteArray),(l.flatMap fE).length=l.length*2
 | []=>rfl
 |x::r=>by
  have:=pS r
  simp only[jg,ak,af,this]
  simp[fE]
  omega
theorem xC (d:Array (Bool × ByteArray)):(flatK fE 2 d).toList=d.toList.flatMap fE:=by
 apply jt
 intro t
 by_cases ht:t<d.size*2
 ·rw[pT _ _ (by simpa using ht),fm]
  have:=get_flatK fE 2 d t ht
  have hs:t<(flatK fE 2 d).size:=by simpa using ht
  rw[getElem!_pos (flatK fE 2 d) t hs]at this
  have h2:t / 2<d.size:=by omega
  have e:d.toList[t / 2]! = d[t / 2]!:=by rw[getElem!_pos d (t / 2) h2,getElem!_pos d.toList (t / 2) (by simpa using h2)];simp
  rw[iz hs,this,e]
 ·have h1:(d.toList.flatMap fE).length<=t:=by
   rw[pS,ja]
   exact oe ht
  have h2:(flatK fE 2 d).toList.length<=t:=by
   rw[ja,size_flatK]
   exact oe ht
  rw[gv h1,gv h2]
theorem Gi {w:World}{g:Nat}{cur:Array Value}{e:TypeId}{Fa:Array Value}(hb:w.heap[g]?=some (.cells cur e (0,0)))(ht:cur.toList.take Fa.size=Fa.toList):Holds id w g 0 Fa:=by
 intro j hj
 refine⟨?_,by simp[World.frozen?,hb]⟩
 have h1:(cur.toList.take Fa.size)[j]?=Fa.toList[j]?:=by rw[ht]
 rw[fu hj]at h1
 simp only[World.cell?,hb,dj]
 simp only[jo,ai,ay]
 rw[<- fm,h1]
 simp[hj]
theorem Gj {w:World}{g n:Nat}{os:Array Obj}{cur:Array Value}{e:TypeId} (d:Array Value)(hb:w.heap[g]?=some (.cells cur e (0,0))) :
  (grow (putRow id (Sort.ahead w n) g 0 d) os).heap[g]?=some (.cells (putCells id 0 d cur) e (0,0)):=by
 have hg:g<w.heap.size:=(bq.1 hb).1
 rw[heap_grow_old _ _ (by simpa using hg)]
 simp[putRow,mapBlock,Sort.ahead,Array.getElem?_modify,hb,onCells]
theorem Bz {w:World}{g n:Nat}{os:Array Obj} (d:Array Value):w.grownBy (grow (putRow id (Sort.ahead w n) g 0 d) os) (some g):=by
 refine⟨rfl,rfl,rfl,by simp,λk hk hne=>?_⟩
 rw[heap_grow_old _ _ (by simpa using hk)]
 have:g≠k:=λe=>hne (by rw[e])
 simp[putRow,mapBlock,Sort.ahead,Array.getElem?_modify,this]
theorem Ch (cur:Array Value) (ts:Array Value)(h:ts.size<=cur.size):(putCells id 0 ts cur).toList.take ts.size=ts.toList:=by
 apply jt
 intro j
 by_cases hj:j<ts.size
 ·rw[fu hj,fm]
  simp[putCells,hj,show j<cur.size by omega]
 ·rw[List.getElem?_take_eq_none (by omega),gv (by simp;omega)]
theorem Rm (w:World) (g:Nat) (lb:Array Value) (eg:∀args w,(callFunc g args).run Tryz.prog w=.ok (.enter g args) w)
  (S:List (Bool × ByteArray)->Prop) (N:Nat)(hN:N<=maxLen)(hNb:N*24<=140737488355328)(hSN:∀ss,S ss->ss.length<=N)(hseq:SeqStopsK Fence.wide 2 Tryz.prog g lb (λx=>#[qR x]) (NC w.heap.size) S (λ_=>True) N w) :
  Calls Tryz.prog 107 #[.func (.func g) #[] lb,.func (.func 109) #[] #[]] w λe w'=>∃(v:Value) (ss:List (Bool × ByteArray)),e=.returned v/\S ss /\
   w'.ownsRow w.heap.size 51 2 v ss.length ((iM La ss).flatMap fE)/\(v=.slice none 0 0 ↔ ss=[])/\Below w.heap.size w w':=by
 have hC:=callsIn_wide.1 (P7 Fence.wide 4 trivial trivial rfl (by omega) g lb trivial eg S N hN hNb w hseq)
 have eo:∀args w,(callFunc 109 args).run Tryz.prog w=.ok (.enter 109 args) w:=enters_of Tryz.func109 (by kernel_rfl) rfl
 go_enter Tryz.func107,Tryz.ntmps107
 go_wp2_with (go_at_call 146;refine hC.mono ?_;rintro e W ⟨v,ss,rfl,hS,hrow,hnil,hb⟩)
 rcases hrow.2 with⟨rfl,hz⟩ | ⟨gb,cap,cur,rfl,hbase,hgb,r1,r2,r3,r4⟩
 ·have hss:ss=[]:=List.eq_nil_of_length_eq_zero hz
  subst hss
  have hN:=AnyF.slices_SortFunc_none Tryz.sort147 none 0 (.func (.func 109) #[] #[]) W
  go_wp2_with (go_at_call 147;refine hN.mono ?_;rintro e w' ⟨rfl,rfl⟩)
  go_ret
  exact⟨.slice none 0 0,[],rfl,hS,by simpa [iM]using hrow,by simp,hb⟩
 ·have hH:HoldsK fE 2 W gb 0 ss.toArray:=Gi hgb (by rw[xC];simpa using r4)
  have hgl:gb<W.heap.size:=(bq.1 hgb).1
  have hsz:ss.toArray.size<4611686018427387904:=by have:=hSN ss hS;simp;omega
  have hcmp:CmpLays Tryz.prog 109 #[] fE 2 C4 gb 0 ss.toArray.size W:=λm os dk _ x y=>
   (RG x y (sortWorldK fE 2 W gb 0 m dk os)).mono λe w' ⟨h1,os',h2⟩=>⟨h1,0,os',h2⟩
  have cS:=AnyQ.slices_SortFunc_total Tryz.sort147 2 Tryz.isAgg51 Tryz.sizeOf51 fE (λ_=>rfl) (λx v hv=>by simp[fE]at hv;rcases hv with rfl | rfl <;> rfl) C4 (by rw[C0];exact Jf.swo)
   109 #[] gb 0 cap ss.toArray W eo hcmp hH hgl hsz (by rw[C0];exact Jf.total)
  rw[C0,l7,List.toList_toArray,HE]at cS
  go_wp2_with (go_at_call 147;refine cS.mono ?_;rintro e w' ⟨rfl,nn,os,rfl⟩)
  go_ret
  have hp:=(lE (lt:=La) ss).length_eq
  have hsF:(flatK fE 2 (iM La ss).toArray).size=ss.length*2:=by simp[hp]
  refine⟨_,ss,rfl,hS,⟨?_,.inr ⟨gb,cap,_,rfl,hbase,Gj _ hgb,r1,r2,?_,?_⟩⟩,hnil,hb.grown (Bz _) hb.size (λj hj=>by cases hj;exact hbase)⟩
  ·rw[<- xC (iM La ss).toArray]
   simpa using hsF
  ·simpa [putCells]using r3
  ·have hle:ss.length*2<=cap*2:=gr _ r1
   have:=Ch cur (flatK fE 2 (iM La ss).toArray) (by rw[hsF,r3];exact hle)
   rw[hsF,xC]at this
   simpa using this
end Go.AxC
end
section
namespace Go.Ax
open Go Go.Proofs
section
def Cx.kP (c:Cx) (w:World) (gb:Nat) (o:O) (n z:Nat):Cx:=
 { c with w:=w,Z:=c.Z++[o],blk:=λb=>if b=c.Z.length then gb else c.blk b,tot:=λb=>if b=c.Z.length then n else c.tot b,xI:=λb=>if b=c.Z.length then z else c.xI b }
section
variable {E:Env}{c:Cx}
theorem AN (h:SR E c) {w:World}{gb n z:Nat}{o:O}(hb:Go.RowKit.Below c.w.heap.size c.w w)(hg:c.w.heap.size<=gb):Ext c (c.kP w gb o n z) where
 size:=hb.size
 keep:=λk hk ho=>by
  refine⟨hb.block k hk,λ⟨b,hl,hbk⟩=>?_⟩
  rcases iD hl with hl | ⟨rfl,_⟩
  ·refine ho ⟨b,hl,?_⟩
   have:=eA hl
   simpa [Cx.kP,ek this]using hbk
  ·simp[Cx.kP]at hbk;omega
 len:=by simp[Cx.kP]
 blk:=λb hb=>by simp[Cx.kP,ek hb]
 tot:=λb hb=>by simp[Cx.kP,ek hb]
 xI:=λb hb=>by simp[Cx.kP,ek hb]
 nY:=rfl
 os:=hb.os
 tape:=hb.tape
 output:=hb.output
theorem QK (h:SR E c) {w:World}{gb n z:Nat}{o:O}(hb:Go.RowKit.Below c.w.heap.size c.w w)(hg:c.w.heap.size<=gb)(ho:uV E (c.kP w gb o n z) c.Z.length o):SR E (c.kP w gb o n z) where
 inj:=λb b' hl hl' e=>by
  rcases iD hl with hl | ⟨rfl,_⟩ <;> rcases iD hl' with hl' | ⟨rfl,_⟩
  ·have:=eA hl;have:=eA hl'
   refine h.inj b b' hl hl' ?_
   simpa [Cx.kP,ek (eA hl),ek (eA hl')]using e
  ·have:=h.lt hl
   simp[Cx.kP,ek (eA hl)]at e;omega
  ·have:=h.lt hl'
   simp[Cx.kP,ek (eA hl')]at e;omega
  ·rfl
 obj:=λb o' hbo=>by
  by_cases hlt:b<c.Z.length
  ·have hb':c.Z[b]?=some o':=by simpa [Cx.kP,aq hlt]using hbo
   by_cases hl:live c.Z b
   ·refine (h.obj b o' hb').mono (AN h hb hg) hlt ?_
    exact hb.block _ (h.lt hl)
   ·cases o' with
    |dead=>exact True.intro
    |_=>exact (hl ⟨_,hb',rfl⟩).elim
  ·have:b=c.Z.length:=by
    have:=(AI.1 hbo).1
    simp[Cx.kP]at this;omega
   subst this
   simp[Cx.kP]at hbo
   subst hbo
   exact ho
 nY:=λb hl=>by
  rcases iD hl with hl | ⟨rfl,_⟩
  ·have:=h.nY b hl
   simpa [Cx.kP,ek (eA hl)]using this
  ·intro ha
   have:=h.jB _ ha
   simp[Cx.kP]at this
   omega
 jB:=λk hk=>by
  have:=h.jB k hk
  have:=hb.size
  show k<w.heap.size
  omega
 gl:=pQ (AN h hb hg) h.gl
theorem Fo (h:SR E c) {w:World}(hb:Go.RowKit.Below c.w.heap.size c.w w) {t sz len:Nat}{i:Ty}(hi:E.ty t=some i)(hsz:i.size=sz) {v:Value}{xs:List Value}{cs:List V}(hrow:w.ownsRow c.w.heap.size t sz v len xs)(hv:v≠.slice none 0 0)
  (hl:cs.length=xs.length)(hok:cs.all V.aZ=true)(hr:∀(c':Cx) (j:Nat) (a:V),cs[j]?=some a->∃x,xs[j]?=some x/\VR c' a x):kO E c (.sl c.Z.length 0 len none) (c.Z++[.cells t cs false]) v w:=by
 rcases hrow.2 with⟨e,_⟩ | ⟨gb,cap,cur,rfl,hbase,hgb,r1,r2,r3,r4⟩
 ·exact absurd e hv
 have hlen:=hrow.1
 have hcl:cs.length<=cur.size:=by rw[hl,hlen,r3];exact gr _ r1
 have hne:∀{α:Type} (x y:α),(if c.Z.length=c.Z.length then x else y)=x:=λx y=>bf rfl
 refine⟨c.kP w gb (.cells t cs false) cur.size sz,rfl,rfl,AN h hb hbase,QK h hb hbase ⟨cur,?_,?_,⟨i,hi,?_⟩,hcl,(λe=>by cases e),hok,λj a hj=>?_⟩,?_⟩
 ·show w.heap[if c.Z.length=c.Z.length then gb else _]?=_
  rw[hne];exact hgb
 ·show cur.size=if c.Z.length=c.Z.length then _ else _
  rw[hne]
 ·show (if c.Z.length=c.Z.length then sz else _)=_
  rw[hne,hsz]
 ·obtain⟨x,h1,h2⟩:=hr (c.kP w gb (.cells t cs false) cur.size sz) j a hj
  refine⟨x,?_,h2⟩
  have hjl:j<len*sz:=by rw[<- hlen];exact (AI.1 h1).1
  rw[<- r4,fu hjl,fm]at h1
  exact h1
 ·have:=VR.sl (c:=c.kP w gb (.cells t cs false) cur.size sz) c.Z.length 0 len none cap (by simp[Cx.kP]) r1 (λk e=>by cases e) (λ_=>by
   show 0+cap*(if c.Z.length=c.Z.length then sz else _)=if c.Z.length=c.Z.length then cur.size else _
   rw[hne,hne,r3,dj])
  have e:(c.kP w gb (.cells t cs false) cur.size sz).blk c.Z.length=gb:=bf rfl
  rw[e]at this
  exact this
theorem Fp (h:SR E c) {w:World}(hb:Go.RowKit.Below c.w.heap.size c.w w):kO E c .aF c.Z (.slice none 0 0) w:=by
 obtain⟨k1,k2⟩:=vG h (w:=w) hb.size (λk hk=>hb.block k hk) hb.os hb.tape hb.output
 exact⟨c.outer w,rfl,rfl,k1,k2,.inl .aF⟩
end
end
end Go.Ax
end
section
namespace Go.AxC
open Go Go.Proofs Go.Ax Go.RowKit Go.Maps Go.Sort Go.Shelf
set_option maxRecDepth 100000 in
theorem GN (F:Fence) (n:Nat)(hF:F.fn 256)(hro:F.round=none)(hn:1<=n) (Bm:Nat) (p:Option Addr) (cap:Nat) (xs:List ByteArray) (w:World)(hBm:Bm<w.heap.size)(hx:xs.length<=1000000)
  (hm:w.cell? ⟨Bm,0,none⟩=some (.slice p xs.length cap))(hp:∀j x,xs[j]?=some x->∃blk off,p=some ⟨blk,off,none⟩/\w.cell? ⟨blk,off+j,none⟩=some (.string x)) :
  SeqStopsK F n Tryz.prog 256 #[.pointer (some ⟨Bm,0,none⟩)] (λx=>#[encS x]) (NC w.heap.size) (λss=>ss=xs) (λ_=>True) xs.length w:=by
 intro l J Jx W hW hJ hJx hY h0
 replace hm:W.cell? ⟨Bm,0,none⟩=some (.slice p xs.length cap):=(hW.cell (p:=⟨Bm,0,none⟩) hBm).trans hm
 refine callsIn_of_wp Tryz.func256 rfl hF ?_ hro
 simp only[Tryz.ntmps256,l7,af,b8,reduceAdd,reduceSub,k8,k9,mq,l8,cq,dy]
 gi_wp2
 gi_loopw [7] (λv7 wr=>∃i:Nat,v7=.int .i64 (i:Int)/\i<=xs.length/\J (xs.take i) wr/\Below w.heap.size w wr)
  (λv7 wr=>match v7 with | .int _ k=>xs.length-k.toNat | _=>0)
 case atStart=>
  exact⟨0,rfl,ij _,h0,hW⟩
 case round=>
  obtain⟨i,rfl,hi,hJi,hb⟩:=hrel
  by_cases hlt:i<xs.length
  ·have hii:((i:Int)<(xs.length:Int)):=by omega
   have hxi:xs[i]?=some xs[i]:=BY hlt
   obtain⟨blk,off,rfl,hc⟩:=hp i _ hxi
   have hc':wr.cell? ⟨blk,off+i,none⟩=some (.string xs[i]):=(hb.cell (p:=⟨blk,off+i,none⟩) (by
    unfold World.cell? at hc
    cases ho:w.heap[blk]? with
    |none=>simp[ho]at hc
    |some o=>exact (bq.1 ho).1)).trans hc
   obtain⟨fn,tmps,assign,body,hy,hR⟩:=hY (xs.take i) xs[i] wr hJi (by simp;omega)
   simp only[encS]at hy
   have htk:xs.take i++[xs[i]]=xs.take (i+1):=by simp
   have h63:IntKind.i64.wrap ((i:Int)+1)=(i:Int)+1:=by
    have:i+1<=1000000:=by omega
    simp only[IntKind.wrap,IntKind.bits,IntKind.signed]
    simp
    omega
   gi_wp2
   refine hR.mono ?_
   rintro e W3 (⟨rfl,hJ4,hk3⟩ | ⟨rfl,hJx3⟩)
   ·rw[htk]at hJ4
    gi_wp2
    go_roundw
    case rel=>exact⟨i+1,by rw[Int.natCast_add];rfl,by omega,hJ4,hb.trans hk3.2⟩
    case measure=>
     show xs.length-((i:Int)+1).toNat<xs.length-(i:Int).toNat
     omega
   ·gi_wp2
    refine bodyPost_ret (results_none rfl _ _ _) rfl ?_
    exact⟨⟨_,rfl⟩,.inr ⟨_,trivial,hJx3⟩⟩
  ·have hie:i=xs.length:=by omega
   subst hie
   gi_wp2
   go_end0
   exact⟨⟨_,rfl⟩,.inl ⟨xs,rfl,by simpa using hJi⟩⟩
end Go.AxC
end
section
namespace Go.AxC
open Go Go.Proofs Go.Ax Go.RowKit Go.Sort
section
section
variable {E:Env}{c:Cx}
theorem uR (hs:SR E c) {b t:Nat}{X:V}{ex:Bool}(hb:c.Z[b]?=some (.cells t [X] ex)):∃x,c.w.cell? ⟨c.blk b,0,none⟩=some x/\VR c X x/\c.blk b<c.w.heap.size:=by
 obtain⟨arr,h1,_,_,_,_,_,h2⟩:=hs.obj b _ hb
 obtain⟨x,h3,h4⟩:=h2 0 X rfl
 exact⟨x,by simp[World.cell?,h1,h3],h4,(bq.1 h1).1⟩
theorem Pc (hs:SR E c) {X:V}{es:List (V × V)}(hX:(∃m,X=.mp m/\c.Z[m]?=some (.map es))\/∃g,X=.imp g es) {x:Value}(hv:VR c X x) :
  ∃blk en cl l,x=.map (some blk)/\c.w.heap[blk]?=some (.map en cl)/\Wa en cl/\l.Perm en.toList/\jA c es l:=by
 rcases hX with⟨m,rfl,hm⟩ | ⟨g,rfl⟩
 ·obtain⟨en,cl,h1,h2,l,h3,h4⟩:=hs.obj m _ hm
  cases hv with
  |mp _ h=>exact⟨_,en,cl,l,rfl,h1,h2,h3,h4⟩
  |inl h=>cases h
 ·obtain⟨m,en,cl,l,hx,_,h1,h2,h3,h4⟩:=hv.sO
  exact⟨m,en,cl,l,hx,h1,h2,h3,h4.Pd⟩
theorem rowS {I:Bool->Nat->Prop}{w:World}{k:V}{x:Value}(h:rQ w I k x)(hr:kQ (rowOf k)=true):∃y,x=encS y/\rowOf k=oS y:=by
 cases h with
 |one h=>cases h with
  |str s=>exact⟨s,rfl,rfl⟩
  |_=>simp[rowOf,V.cells,kQ]at hr
 |agg cs xs h=>
  match cs,hr with
  | [],hr=>simp[rowOf,V.cells,kQ]at hr
  | [_],hr=>simp[rowOf,kQ]at hr
  |_::_::_,hr=>simp[rowOf,V.cells,kQ]at hr
theorem pZ {I:Bool->Nat->Prop}{w:World}{k:V}{x:Value}(h:rQ w I k x)(hr:lI (rowOf k)=true):∃y,x=qR y/\rowOf k=AO y:=by
 cases h with
 |one h=>cases h <;> simp[rowOf,V.cells,lI]at hr
 |agg cs xs h=>
  match cs,hr with
  | [],hr=>simp[rowOf,V.cells,lI]at hr
  | [_],hr=>simp[rowOf,lI]at hr
  | [a,b],hr=>
   cases h with
   |cons _ y _ ys h1 h2=>cases h2 with
    |cons _ z _ zs h3 h4=>
     cases h4
     cases h1 <;> first | (cases h3 <;> first | exact⟨(_,_),rfl,rfl⟩ | (simp[rowOf,V.cells,lI]at hr;done)) | (simp[rowOf,V.cells,lI]at hr;done)
  |_::_::_::_,hr=>simp[rowOf,V.cells,lI]at hr
theorem Ln {α:Type}{enc:α->Value}{abs:α->List V}{p:List V->Bool}(hrow:∀{k:V}{x:Value},rQ c.w c.bF k x->p (rowOf k)=true->∃y,x=enc y/\rowOf k=abs y)
  {es:List (V × V)}{l:List MapEntry}(hm:jA c es l):allRows p (es.map λe=>rowOf e.1)=true->∃ys:List α,l.map (·.key)=ys.map enc/\(es.map λe=>rowOf e.1)=ys.map abs:=by
 induction hm with
 |nil=>exact λ_=>⟨[],rfl,rfl⟩
 |cons k v es e l hk hv hr ih=>
  intro h
  simp only[bl,allRows]at h
  split at h
  case h_2=>cases h
  rename_i h1
  obtain⟨y,e1,e2⟩:=hrow hk h1
  obtain⟨ys,e3,e4⟩:=ih h
  exact⟨y::ys,by simp[e1,e3],by simp[e2,e4]⟩
theorem PW:∀zs:List ByteArray,(zs.map oS).flatten.length=(zs.flatMap pV).length/\(zs.map oS).flatten.all V.aZ=true/\∀(c':Cx) (j:Nat) (a:V),(zs.map oS).flatten[j]?=some a->∃x,(zs.flatMap pV)[j]?=some x/\VR c' a x
 | []=>⟨rfl,rfl,λ_ j a h=>by simp at h⟩
 |z::zs=>by
  obtain⟨h1,h2,h3⟩:=PW zs
  refine⟨by simp[oS,pV]at h1 ⊢;exact h1,by simp only[bl,da,l9,h2];rfl,λc' j a h=>?_⟩
  match j,h with
  |0,h=>
   injection (show some (V.str (Ax.bytes z))=some a from h) with h
   subst h
   exact⟨.string z,rfl,.inl (.str z)⟩
  |j+1,h=>exact h3 c' j a h
theorem TN:∀zs:List (Bool × ByteArray),(zs.map AO).flatten.length=(zs.flatMap fE).length/\(zs.map AO).flatten.all V.aZ=true/\∀(c':Cx) (j:Nat) (a:V),(zs.map AO).flatten[j]?=some a->∃x,(zs.flatMap fE)[j]?=some x/\VR c' a x
 | []=>⟨rfl,rfl,λ_ j a h=>by simp at h⟩
 |z::zs=>by
  obtain⟨h1,h2,h3⟩:=TN zs
  refine⟨by simp only[bl,da,jg,ak,h1];rfl,by simp only[bl,da,l9,h2];rfl,λc' j a h=>?_⟩
  match j,h with
  |0,h=>
   injection (show some (V.bool z.1)=some a from h) with h
   subst h
   exact⟨.bool z.1,rfl,.inl (.bool _)⟩
  |1,h=>
   injection (show some (V.str (Ax.bytes z.2))=some a from h) with h
   subst h
   exact⟨.string z.2,rfl,.inl (.str z.2)⟩
  |j+2,h=>exact h3 c' j a h
end
theorem CK {α:Type}{enc:α->Value} (dec:Value->α)(hd:∀x,dec (enc x)=x) {a b:List α}(h:(a.map enc).Perm (b.map enc)):a.Perm b:=by
 have:=h.map dec
 simpa [ku,Function.comp_def,hd]using this
def aaV:Value->ByteArray
 | .string s=>s
 |_=>default
def decL:Value->Bool × ByteArray
 | .agg #[.bool b,.string s]=>(b,s)
 |_=>default
theorem yA {α:Type}{F:Fence}{n:Nat}{P:Program}{g:Nat}{lb:Array Value}{encs:α->Array Value}{Kp:World->World->Prop}{S S' Sp:List α->Prop}{N:Nat}{w:World}(h:SeqStopsK F n P g lb encs Kp S Sp N w)(hS:∀xs,S xs->S' xs):SeqStopsK F n P g lb encs Kp S' Sp N w:=
 λl J Jx W hW hJ hJx hY h0=>(h l J Jx W hW hJ hJx hY h0).mono λe W' ⟨h1,h2⟩=>⟨h1,h2.imp (λ⟨xs,a,b⟩=>⟨xs,hS xs a,b⟩) id⟩
end
section
section
variable {E:Env}{c:Cx}
theorem aaI (hs:SR E c) {i:Ty}(hi:E.ty 9=some i)(h1:i.size=1) (g:Nat) (lb:Array Value) (eg:∀args w,(callFunc g args).run Tryz.prog w=.ok (.enter g args) w) (ys:List ByteArray)(hlen:ys.length<=1000000)
  (hseq:SeqStopsK Fence.wide 2 Tryz.prog g lb (λx=>#[encS x]) (NC c.w.heap.size) (λss=>ss.Perm ys) (λ_=>True) ys.length c.w) :
  tE Tryz.prog 88 [.func (.func g) #[] lb] c.w λx w'=>(ys=[]->kO E c .aF c.Z x w')/\(ys≠[]->kO E c (.sl c.Z.length 0 ys.length none) (c.Z++[.cells 9 (kY strLt (ys.map oS)).flatten false]) x w'):=by
 refine .inl ⟨Tryz.call88 _ _,(Rl c.w g lb eg _ ys.length (by simp only[maxLen];omega) (by omega) (λss h=>Nat.le_of_eq h.length_eq) hseq).mono ?_⟩
 rintro e w' ⟨v,ss,rfl,hp,hrow,hnil,hb⟩
 have hl:=hp.length_eq
 refine⟨v,rfl,λh0=>?_,λh0=>?_⟩
 ·subst h0
  rw[hnil.2 (List.perm_nil.1 hp)]
  exact Fp hs hb
 ·have hss:ss≠[]:=λe=>h0 (List.perm_nil.1 (by rw[e]at hp;exact hp.symm))
  have hv:v≠.slice none 0 0:=λe=>hss (hnil.1 e)
  rw[G1 NW hp,hl]at hrow
  obtain⟨k1,k2,k3⟩:=PW (iM D7 ys)
  rw[zY oS]
  exact Fo hs hb hi h1 hrow hv k1 k2 k3
theorem finL (hs:SR E c) {i:Ty}(hi:E.ty 51=some i)(h1:i.size=2) (g:Nat) (lb:Array Value) (eg:∀args w,(callFunc g args).run Tryz.prog w=.ok (.enter g args) w) (ys:List (Bool × ByteArray))(hlen:ys.length<=1000000)
  (hseq:SeqStopsK Fence.wide 2 Tryz.prog g lb (λx=>#[qR x]) (NC c.w.heap.size) (λss=>ss.Perm ys) (λ_=>True) ys.length c.w) :
  tE Tryz.prog 107 [.func (.func g) #[] lb,.func (.func 109) #[] #[]] c.w λx w'=>(ys=[]->kO E c .aF c.Z x w')/\(ys≠[]->kO E c (.sl c.Z.length 0 ys.length none) (c.Z++[.cells 51 (kY rF (ys.map AO)).flatten false]) x w'):=by
 refine .inl ⟨Tryz.call107 _ _,(Rm c.w g lb eg _ ys.length (by simp only[maxLen];omega) (by omega) (λss h=>Nat.le_of_eq h.length_eq) hseq).mono ?_⟩
 rintro e w' ⟨v,ss,rfl,hp,hrow,hnil,hb⟩
 have hl:=hp.length_eq
 refine⟨v,rfl,λh0=>?_,λh0=>?_⟩
 ·subst h0
  rw[hnil.2 (List.perm_nil.1 hp)]
  exact Fp hs hb
 ·have hss:ss≠[]:=λe=>h0 (List.perm_nil.1 (by rw[e]at hp;exact hp.symm))
  have hv:v≠.slice none 0 0:=λe=>hss (hnil.1 e)
  rw[G1 Jf hp,hl]at hrow
  obtain⟨k1,k2,k3⟩:=TN (iM La ys)
  rw[zY AO]
  exact Fo hs hb hi h1 hrow hv k1 k2 k3
theorem Bb {t:Nat}{fk fv:List Nat}{ok:List V->Bool}{lt:List V->List V->Bool}{x:V}{Z σ':Sg}{v:V}(h:qF t fk fv ok lt x Z=some (v,σ')) :
  ∃rows,keysOf Z fk fv x=some rows/\allRows ok rows=true/\Nat.ble rows.length 1000000=true/\((rows=[]/\v=.aF/\σ'=Z)\/(rows≠[]/\v=.sl Z.length 0 rows.length none/\σ'=Z++[.cells t (kY lt rows).flatten false])):=by
 unfold qF at h
 split at h
 ·rename_i hk
  injection h with h;injection h with h1 h2
  exact⟨[],hk,rfl,rfl,.inl ⟨rfl,h1.symm,h2.symm⟩⟩
 ·rename_i l hne hk
  split at h
  case h_2=>cases h
  rename_i h3 h4
  injection h with h;injection h with h1 h2
  exact⟨l,hk,h3,h4,.inr ⟨λe=>hne e,h1.symm,h2.symm⟩⟩
 ·cases h
theorem kH {n:Nat}:∀{l:List Nat},HA n l=true->n∈l
 | [],h=>by cases h
 |a::r,h=>by
  simp only[HA]at h
  split at h
  ·rename_i e
   have e:=j9 e
   subst e
   exact By ..
  ·exact No _ (kH h)
theorem PV {f b:Nat}{x:Value}(hv:VR c (.fn f [] [.ref b 0]) x):x=.func (.func f) #[] #[.pointer (some ⟨c.blk b,0,none⟩)]:=by
 cases hv with
 |inl h=>cases h
 |fn _ _ _ xs ys ha hb=>
  cases ha
  cases hb with
  |cons _ y _ zs h1 h2=>
   cases h2
   obtain⟨e,_⟩:=h1.iQ
   rw[e]
theorem wE {I:Bool->Nat->Prop}{w:World}:∀{xs:List (List V)}{blk off:Nat},eN w I 1 xs blk off->allRows kQ xs=true->∃ys:List ByteArray,xs=ys.map oS/\∀j y,ys[j]?=some y->w.cell? ⟨blk,off+j,none⟩=some (.string y)
 | [],_,_,_,_=>⟨[],rfl,λj y h=>by simp at h⟩
 |r::xs,blk,off,h,hok=>by
  cases h with
  |cons _ _ hl hc hr=>
   simp only[allRows]at hok
   split at hok
   case h_2=>cases hok
   rename_i h1
   obtain⟨ys,e,hy⟩:=wE hr hok
   cases hc with
   |nil=>cases hl
   |cons v x cs h2 h3 h4=>
    cases h4 with
    |cons=>simp at hl
    |nil=>
     cases h3 <;> first | (simp[kQ]at h1;done) | skip
     rename_i s
     refine⟨s::ys,by rw[e];rfl,λj y hj=>?_⟩
     match j,hj with
     |0,hj=>injection hj with hj;subst hj;exact h2
     |j+1,hj=>
      have:=hy j y hj
      rwa [qa,kj 1 j]at this
theorem pF {I:Bool->Nat->Prop}{w:World}{sz:Nat}{xs:List (List V)}{blk off:Nat}(h:eN w I sz xs blk off)(hok:allRows kQ xs=true):xs=[]\/sz=1:=by
 cases h with
 |nil=>exact .inl rfl
 |cons r xs hl hc hr=>
  right
  simp only[allRows]at hok
  split at hok
  case h_2=>cases hok
  rename_i h1
  match r,h1,hl with
  | [],h1,_=>cases h1
  | [_],_,hl=>exact hl.symm
  |_::_::_,h1,_=>simp[kQ]at h1
theorem qS {cs:List V}{arr:Array Value}(hc:∀(j:Nat) (v:V),cs[j]?=some v->∃x,arr[j]?=some x/\VR c v x):∀(l:List V) (off:Nat),(∀j v,l[j]?=some v->cs[off+j]?=some v)->allRows kQ (l.map λv=>[v])=true->∃ys:List ByteArray,(l.map λv=>[v])=ys.map oS/\∀j y,ys[j]?=some y->arr[off+j]?=some (.string y)
 | [],_,_,_=>⟨[],rfl,λj y h=>by simp at h⟩
 |v::l,off,hl,hok=>by
  simp only[bl,allRows]at hok
  split at hok
  case h_2=>cases hok
  rename_i h1
  obtain⟨ys,e,hy⟩:=qS hc l (off+1) (λj w hj=>by have:=hl (j+1) w hj;rwa [<- qa,Nat.add_right_comm]at this) hok
  obtain⟨x,h2,h3⟩:=hc off v (hl 0 v rfl)
  have hx:∃s,x=.string s/\v=.str (Ax.bytes s):=by
   cases v <;> first | (simp[kQ]at h1;done) | skip
   obtain⟨s,h4,h5⟩:=h3.e_
   exact⟨s,h4,by rw[h5]⟩
  obtain⟨s,rfl,rfl⟩:=hx
  refine⟨s::ys,by rw[bl,e];rfl,λj y hj=>?_⟩
  match j,hj with
  |0,hj=>injection hj with hj;subst hj;exact h2
  |j+1,hj=>
   have:=hy j y hj
   rwa [qa,kj 1 j]at this
end
end
section
section
variable {E:Env}{c:Cx}
theorem KR (hs:SR E c) {i:Ty}(hi:E.ty 9=some i)(h1:i.size=1) {f b t:Nat}{X:V}{ex:Bool}{es:List (V × V)}(hf:f∈[127,323])(hb:c.Z[b]?=some (.cells t [X] ex))
  (hX:(∃m,X=.mp m/\c.Z[m]?=some (.map es))\/∃g,X=.imp g es)(hok:allRows kQ (es.map λe=>rowOf e.1)=true)(hlen:Nat.ble (es.map λe=>rowOf e.1).length 1000000=true) :
  ∃ys:List ByteArray,(es.map λe=>rowOf e.1)=ys.map oS/\tE Tryz.prog 88 [.func (.func f) #[] #[.pointer (some ⟨c.blk b,0,none⟩)]] c.w λx w'=>(ys=[]->kO E c .aF c.Z x w')/\(ys≠[]->kO E c (.sl c.Z.length 0 ys.length none) (c.Z++[.cells 9 (kY strLt (ys.map oS)).flatten false]) x w'):=by
 obtain⟨x,hx,hvx,hblt⟩:=uR hs hb
 obtain⟨blk,en,cl,l,rfl,h2,h3,h4,h5⟩:=Pc hs hX hvx
 obtain⟨ys,e1,e2⟩:=Ln (enc:=encS) (abs:=oS) (λh hr=>rowS h hr) h5 hok
 have hl:ys.length<=1000000:=by rw[e2,bg]at hlen;exact jw hlen
 have hken:(en.toList.map (·.key)).Perm (ys.map encS):=by rw[<- e1];exact (h4.map _).symm
 have hks:∀x∈en.toList.map (·.key),∃y,x=encS y:=λx hx=>by
  have:=hken.mem_iff.1 hx
  obtain⟨y,_,rfl⟩:=cm.1 this
  exact⟨y,rfl⟩
 have hsz:en.size=ys.length:=by have:=hken.length_eq;simpa using this
 refine⟨ys,e2,aaI hs hi h1 f _ ?_ ys hl ?_⟩
 ·simp only[IN,ck,fh]at hf
  rcases hf with rfl | rfl
  ·exact enters_of Tryz.func127 (by kernel_rfl) rfl
  ·exact enters_of Tryz.func323 (by kernel_rfl) rfl
 ·rw[<- hsz]
  simp only[IN,ck,fh]at hf
  rcases hf with rfl | rfl
  ·exact yA (JN _ (HN Fence.wide 2 trivial rfl (by omega) (c.blk b) blk en cl c.w hblt hx h2 h3.st hks)) λxs hp=>CK aaV (λ_=>rfl) (hp.trans hken)
  ·exact yA (JN _ (HM Fence.wide 2 trivial rfl (by omega) (c.blk b) blk en cl c.w hblt hx h2 h3.st hks)) λxs hp=>CK aaV (λ_=>rfl) (hp.trans hken)
theorem KS (hs:SR E c) {i:Ty}(hi:E.ty 51=some i)(h1:i.size=2) {f b t:Nat}{X:V}{ex:Bool}{es:List (V × V)}(hf:f∈[148])(hb:c.Z[b]?=some (.cells t [X] ex))
  (hX:(∃m,X=.mp m/\c.Z[m]?=some (.map es))\/∃g,X=.imp g es)(hok:allRows lI (es.map λe=>rowOf e.1)=true)(hlen:Nat.ble (es.map λe=>rowOf e.1).length 1000000=true) :
  ∃ys:List (Bool × ByteArray),(es.map λe=>rowOf e.1)=ys.map AO/\tE Tryz.prog 107 [.func (.func f) #[] #[.pointer (some ⟨c.blk b,0,none⟩)],.func (.func 109) #[] #[]] c.w λx w'=>(ys=[]->kO E c .aF c.Z x w')/\(ys≠[]->kO E c (.sl c.Z.length 0 ys.length none) (c.Z++[.cells 51 (kY rF (ys.map AO)).flatten false]) x w'):=by
 obtain⟨x,hx,hvx,hblt⟩:=uR hs hb
 obtain⟨blk,en,cl,l,rfl,h2,h3,h4,h5⟩:=Pc hs hX hvx
 obtain⟨ys,e1,e2⟩:=Ln (enc:=qR) (abs:=AO) (λh hr=>pZ h hr) h5 hok
 have hl:ys.length<=1000000:=by rw[e2,bg]at hlen;exact jw hlen
 have hken:(en.toList.map (·.key)).Perm (ys.map qR):=by rw[<- e1];exact (h4.map _).symm
 have hks:∀x∈en.toList.map (·.key),∃y,x=qR y:=λx hx=>by
  have:=hken.mem_iff.1 hx
  obtain⟨y,_,rfl⟩:=cm.1 this
  exact⟨y,rfl⟩
 have hsz:en.size=ys.length:=by have:=hken.length_eq;simpa using this
 refine⟨ys,e2,finL hs hi h1 f _ ?_ ys hl ?_⟩
 ·simp only[IN,ck,fh]at hf
  subst hf
  exact enters_of Tryz.func148 (by kernel_rfl) rfl
 ·rw[<- hsz]
  simp only[IN,ck,fh]at hf
  subst hf
  exact yA (JN _ (HO Fence.wide 2 trivial rfl (by omega) (c.blk b) blk en cl c.w hblt hx h2 h3.st hks)) λxs hp=>CK decL (λ_=>rfl) (hp.trans hken)
theorem BJ (hs:SR E c) {i:Ty}(hi:E.ty 9=some i)(h1:i.size=1) {f b t:Nat}{X:V}{ex:Bool}(hf:f∈[256])(hb:c.Z[b]?=some (.cells t [X] ex)) (ys:List ByteArray)(hl:ys.length<=1000000)
  (hX:∀x,c.w.cell? ⟨c.blk b,0,none⟩=some x->VR c X x->∃p cap,x=.slice p ys.length cap/\∀j y,ys[j]?=some y->∃blk off,p=some ⟨blk,off,none⟩/\c.w.cell? ⟨blk,off+j,none⟩=some (.string y)) :
  tE Tryz.prog 88 [.func (.func f) #[] #[.pointer (some ⟨c.blk b,0,none⟩)]] c.w λx w'=>(ys=[]->kO E c .aF c.Z x w')/\(ys≠[]->kO E c (.sl c.Z.length 0 ys.length none) (c.Z++[.cells 9 (kY strLt (ys.map oS)).flatten false]) x w'):=by
 obtain⟨x,hx,hvx,hblt⟩:=uR hs hb
 obtain⟨p,cap,rfl,hp⟩:=hX x hx hvx
 simp only[IN,ck,fh]at hf
 subst hf
 exact aaI hs hi h1 _ _ (enters_of Tryz.func256 (by kernel_rfl) rfl) ys hl (yA (GN Fence.wide 2 trivial rfl (by omega) (c.blk b) p cap ys c.w hblt hl hx hp) λxs e=>by rw[e])
theorem D9 {i:Ty}(hi:E.ty 9=some i)(h1:i.size=1):iF Tryz.prog E 88 (sP 9 [127,323] [256]):=by
 intro c vs xs v σ' hs hv h
 unfold sP at h
 split at h
 case h_2=>cases h
 rename_i x
 cases hv with
 |cons _ y _ zs hv1 hv2=>
 cases hv2
 obtain⟨rows,hk,hok,hlen,hres⟩:=Bb h
 have fin:∀(ys:List ByteArray),rows=ys.map oS->tE Tryz.prog 88 [y] c.w (λx w'=>(ys=[]->kO E c .aF c.Z x w')/\(ys≠[]->kO E c (.sl c.Z.length 0 ys.length none) (c.Z++[.cells 9 (kY strLt (ys.map oS)).flatten false]) x w'))->tE Tryz.prog 88 [y] c.w (kO E c v σ'):=by
  intro ys e hr
  refine hr.mono λx w' ⟨k1,k2⟩=>?_
  rcases hres with⟨r0,rfl,rfl⟩ | ⟨r0,rfl,rfl⟩
  ·exact k1 (by rw[e]at r0;simpa using r0)
  ·have:=k2 (λe0=>r0 (by rw[e,e0];rfl))
   rw[e,bg]
   exact this
 unfold keysOf at hk
 split at hk
 case h_2=>cases hk
 rename_i f b
 have hy:=PV hv1
 subst hy
 split at hk
 ·rename_i hb hf
  split at hk
  case h_2=>cases hk
  rename_i es hm
  have hk:=dc hk
  subst hk
  obtain⟨ys,e,hr⟩:=KR hs hi h1 (kH hf) hb (.inl ⟨_,rfl,hm⟩) hok hlen
  exact fin ys e hr
 ·rename_i hb hf
  have hk:=dc hk
  subst hk
  obtain⟨ys,e,hr⟩:=KR hs hi h1 (kH hf) hb (.inr ⟨_,rfl⟩) hok hlen
  exact fin ys e hr
 ·rename_i hb hf
  have hk:=dc hk
  subst hk
  refine fin [] rfl (BJ hs hi h1 (kH hf) hb [] (ij _) λx _ hx=>?_)
  have:x=.slice none 0 0:=by cases hx with | inl h=>cases h;rfl
  exact⟨none,0,this,λj y h=>by simp at h⟩
 ·rename_i t g xs full ex hb hf
  have hk:=dc hk
  subst hk
  obtain⟨x0,hx0,hv0,_⟩:=uR hs hb
  obtain⟨blk,off,sp,cap,sz,rfl,hsp,_,_,hr⟩:=hv0.nK
  rcases hsp with⟨rfl,-⟩ | ⟨rfl,rfl⟩
  case inr=>
   refine fin [] rfl (BJ hs hi h1 (kH hf) hb [] (ij _) λx hx _=>?_)
   rw[hx0]at hx
   have hx:=dc hx
   subst hx
   exact⟨_,0,rfl,λj y hj=>by simp at hj⟩
  obtain⟨ys,e,hy⟩:∃ys:List ByteArray,xs=ys.map oS/\∀j y,ys[j]?=some y->c.w.cell? ⟨blk,off+j,none⟩=some (.string y):=by
   rcases pF hr hok with rfl | rfl
   ·exact⟨[],rfl,λj y h=>by simp at h⟩
   ·exact wE hr hok
  have hl:xs.length=ys.length:=by rw[e,bg]
  refine fin ys e (BJ hs hi h1 (kH hf) hb ys (by rw[<- hl];exact jw hlen) λx hx _=>?_)
  rw[hx0]at hx
  have hx:=dc hx
  subst hx
  exact⟨_,cap,by rw[hl],λj y hj=>⟨blk,off,rfl,hy j y hj⟩⟩
 ·rename_i t m off len cap ex hb hf
  split at hk
  case h_2=>cases hk
  rename_i t' cs ex' hm
  split at hk
  case h_2=>cases hk
  rename_i hle
  have hk:=dc hk
  subst hk
  have hle:=jw hle
  obtain⟨x0,hx0,hv0,_⟩:=uR hs hb
  obtain⟨arr,k1,k2,k3,k4,k5,k6,k7⟩:=hs.obj m _ hm
  obtain⟨ys,e,hy⟩:=qS k7 ((cs.drop off).take len) off (λj w hj=>by
   have hjl:j<len:=gw (AI.1 hj).1 (by rw[br];exact Nat.min_le_left _ _)
   rw[fu hjl,ji]at hj
   exact hj) hok
  have hl:ys.length=len:=by
   have:=au List.length e
   simp only[bg,br,od]at this
   omega
  cases hv0 with
  |inl h=>cases h
  |sl _ _ _ _ cap' h2 h3 h4 h5=>
   refine fin ys e (BJ hs hi h1 (kH hf) hb ys (by
    have:=jw hlen
    rw[e,bg]at this
    exact this) λx hx _=>?_)
   rw[hx0]at hx
   have hx:=dc hx
   subst hx
   exact⟨_,cap',by rw[hl],λj y hj=>⟨c.blk m,off,rfl,by
    have:=hy j y hj
    simp[World.cell?,k1,this]⟩⟩
 ·cases hk
theorem D_ {i:Ty}(hi:E.ty 51=some i)(h1:i.size=2):iF Tryz.prog E 107 (lJ 51 [148] [] 109):=by
 intro c vs xs v σ' hs hv h
 unfold lJ at h
 split at h
 case h_2=>cases h
 rename_i x fo
 split at h
 case h_2=>cases h
 rename_i hfo
 have hfo:=j9 hfo
 subst hfo
 cases hv with
 |cons _ y _ zs hv1 hv2=>
 cases hv2 with
 |cons _ y2 _ zs2 hv3 hv4=>
 cases hv4
 have hy2:y2=.func (.func 109) #[] #[]:=by
  cases hv3 with
  |inl h=>cases h;rfl
  |fn _ _ _ a b ha hb=>cases ha;cases hb;rfl
 subst hy2
 obtain⟨rows,hk,hok,hlen,hres⟩:=Bb h
 have fin:∀(ys:List (Bool × ByteArray)),rows=ys.map AO->tE Tryz.prog 107 [y,.func (.func 109) #[] #[]] c.w (λx w'=>(ys=[]->kO E c .aF c.Z x w')/\(ys≠[]->kO E c (.sl c.Z.length 0 ys.length none) (c.Z++[.cells 51 (kY rF (ys.map AO)).flatten false]) x w'))->tE Tryz.prog 107 [y,.func (.func 109) #[] #[]] c.w (kO E c v σ'):=by
  intro ys e hr
  refine hr.mono λx w' ⟨k1,k2⟩=>?_
  rcases hres with⟨r0,rfl,rfl⟩ | ⟨r0,rfl,rfl⟩
  ·exact k1 (by rw[e]at r0;simpa using r0)
  ·have:=k2 (λe0=>r0 (by rw[e,e0];rfl))
   rw[e,bg]
   exact this
 unfold keysOf at hk
 split at hk
 case h_2=>cases hk
 rename_i f b
 have hy:=PV hv1
 subst hy
 split at hk
 ·rename_i hb hf
  split at hk
  case h_2=>cases hk
  rename_i es hm
  have hk:=dc hk
  subst hk
  obtain⟨ys,e,hr⟩:=KS hs hi h1 (kH hf) hb (.inl ⟨_,rfl,hm⟩) hok hlen
  exact fin ys e hr
 ·rename_i hb hf
  have hk:=dc hk
  subst hk
  obtain⟨ys,e,hr⟩:=KS hs hi h1 (kH hf) hb (.inr ⟨_,rfl⟩) hok hlen
  exact fin ys e hr
 ·rename_i hf;cases hf
 ·rename_i hf;cases hf
 ·rename_i hf;cases hf
 ·cases hk
end
end
end Go.AxC
end
section
namespace Go.AxC
open Go Go.Proofs Go.Ax Go.RowKit Go.Sort Go.Shelf
theorem P9 {arr:Array Value}:∀(ys:List ByteArray),(∀j y,ys[j]?=some y->arr[0+j]?=some (Value.string y))->arr.toList.take (ys.map λx=>x.data.toList).length=(ys.map λx=>x.data.toList).map encStr:=by
 intro ys h
 apply jt
 intro j
 rw[bg,ku]
 by_cases hj:j<ys.length
 ·rw[fu hj,fm]
  have:=h j ys[j] (BY hj)
  rw[dj]at this
  rw[this,mm,BY hj]
  exact au some (Bf ys[j]).symm
 ·rw[List.getElem?_take_eq_none (by omega),gv (by simp;omega)]
theorem IK:∀zs:List ByteArray,((zs.map oS).flatten).length=zs.length
 | []=>rfl
 |z::zs=>by simp only[bl,da,ak,IK zs,oS,af,b8];omega
theorem H7 (E:Env) {i:Ty}(hi:E.ty 9=some i)(h1:i.size=1):iF Tryz.prog E 73 (pP 9):=by
 intro c vs xs v σ' hs hv h
 unfold pP at h
 split at h
 ·injection h with h;injection h with e1 e2
  subst e1 e2
  cases hv with
  |cons _ y _ zs hv1 hv2=>
  cases hv2
  have hy:y=.slice none 0 0:=by cases hv1 with | inl h=>cases h;rfl
  subst hy
  refine .inl ⟨Tryz.call73 _ _,(AnyM.slices_Sort_string_none Tryz.sort73 none 0 c.w).mono ?_⟩
  rintro e w' ⟨rfl,rfl⟩
  exact⟨_,rfl,c,rfl,rfl,Ext.refl c,hs,.gR [] [] .nil⟩
 ·rename_i b len cap
  split at h
  case h_2=>cases h
  rename_i u cs ex hb
  split at h
  case h_2=>cases h
  rename_i h2 h3 h4 h5
  injection h with h;injection h with e1 e2
  subst e1 e2
  have h2:=j9 h2
  have h3:=j9 h3
  have h5:=jw h5
  subst h2
  cases hv with
  |cons _ y _ zs hv1 hv2=>
  cases hv2
  obtain⟨arr,k1,k2,k3,k4,k5,k6,k7⟩:=hs.obj b _ hb
  obtain⟨ys,e,hy⟩:=qS k7 cs 0 (λj w hj=>by rw[dj];exact hj) h4
  have hl:ys.length=cs.length:=by
   have:=au List.length e
   simpa using this.symm
  have hlv:live c.Z b:=⟨_,hb,rfl⟩
  cases hv1 with
  |inl h=>cases h
  |sl _ _ _ _ cap' g2 g3 g4 g5=>
   have hH:=holds_of_block (ss:=ys.map λx=>x.data.toList) k1 (P9 ys hy)
   have hgl:c.blk b<c.w.heap.size:=(bq.1 k1).1
   have cS:=AnyM.slices_Sort_string Tryz.sort73 (c.blk b) 0 cap' (ys.map λx=>x.data.toList) c.w hH hgl (by rw[bg];omega)
   rw[bg,hl,<- h3,A6]at cS
   refine .inl ⟨Tryz.call73 _ _,cS.mono ?_⟩
   rintro e' w' ⟨rfl,n,os,rfl⟩
   refine⟨_,rfl,?_⟩
   have hp:=(lE (lt:=D7) ys).length_eq
   have hheap:=heap_sorted (n:=n) (os:=os) ((iM D7 ys).map λx=>x.data.toList).toArray k1
   have hgrow:=grownBy_sorted (w:=c.w) (g:=c.blk b) (n:=n) (os:=os) ((iM D7 ys).map λx=>x.data.toList).toArray
   have htake:=take_putCells arr ((iM D7 ys).map λx=>x.data.toList) (by rw[bg,hp,hl];exact k4)
   rw[<- Az]at htake
   generalize grow (putRow encStr (Sort.ahead c.w n) (c.blk b) 0 ((iM D7 ys).map λx=>x.data.toList).toArray) os=w' at *
   have hsz:(putCells encStr 0 ((iM D7 ys).map λx=>x.data.toList).toArray arr).size=arr.size:=by simp[putCells]
   generalize putCells encStr 0 ((iM D7 ys).map λx=>x.data.toList).toArray arr=arr' at *
   obtain⟨f1,f2,f3⟩:=PW (iM D7 ys)
   have hrows:(kY strLt (cs.map λv=>[v])).flatten=((iM D7 ys).map oS).flatten:=by
    rw[e,zY oS];rfl
   rw[hrows]
   have hlen:(((iM D7 ys).map oS).flatten).length=cs.length:=by
    rw[IK,hp,hl]
   let c1:=c.put b (.cells arr' 9 (0,0)) (.cells 9 ((iM D7 ys).map oS).flatten ex)
   have x1:Ext c c1:=Cx.nI hlv _ _
   have s1:SR E c1:=Cx.wQ hs hlv _ _ ⟨arr',by
    show (c.w.heap.setIfInBounds (c.blk b) _)[c.blk b]?=_
    simp[hgl],hsz.trans k2,k3,by rw[hlen,hsz];exact k4,λe=>by rw[hlen,hsz];exact k5 e,f2,λj a hj=>by
     obtain⟨x,q1,q2⟩:=f3 c1 j a hj
     refine⟨x,?_,q2⟩
     rw[<- htake]at q1
     have hjl:j<((iM D7 ys).map λx=>x.data.toList).length:=by
      rw[bg,hp,hl,<- hlen]
      exact (AI.1 hj).1
     rw[fu hjl,fm]at q1
     exact q1⟩
   have hc1:c1.w.heap.size=c.w.heap.size:=by simp[c1,Cx.put]
   obtain⟨x2,s2⟩:=vG s1 (w:=w') (by rw[hc1];exact hgrow.size) (λk hk=>by
    rw[hc1]at hk
    by_cases hkb:k=c.blk b
    ·subst hkb
     rw[hheap]
     simp[c1,Cx.put,hgl]
    ·rw[hgrow.block k hk (λe=>hkb (dc e))]
     simp[c1,Cx.put,ju hkb]) hgrow.os hgrow.tape hgrow.output
   exact⟨c1.outer w',rfl,rfl,x1.trans x2,s2,.gR [] [] .nil⟩
 ·cases h
end Go.AxC
end
section
namespace Go.Proofs.YtmhchflckonklaaGreatDoor
open Go Go.Ax
theorem mixed:Tryz.prog.follows .mixedOrders=true:=by kernel_rfl
noncomputable def bare:Ax.Ground Tryz.prog:={ ground with hspec:=.nil }
theorem Y4:∀t,ground.DR t=true->liesAt Tryz.prog Tryz.prog.depth t 1 0 t 1=true:=by
 intro t h
 have h':Nat.beq t 264=true:=h
 have e:=j9 h'
 subst e
 show liesAt Tryz.prog Tryz.prog.depth 264 1 0 264 1=true
 kernel_rfl
theorem Qc:mO bare:=⟨GR,Ic,Il,Y4,trivial⟩
theorem LL:dF Tryz.prog (bare.env .nil):=Qc.PY _
theorem LK:nZ Tryz.prog (bare.env .nil):=Qc.PU (s:=.nil) trivial
theorem QJ:Ax.Alike (bare.env .nil) (ground.env .nil):=⟨rfl,rfl⟩
theorem Oi:gO Tryz.prog (ground.env .nil) 263 kX:=zX _
theorem Oj:gO Tryz.prog (ground.env .nil) 179 lQ:=FH _ rfl
theorem Oh:gO Tryz.prog (ground.env .nil) 304 xV:=Ji _ rfl
theorem Ol:gO Tryz.prog (ground.env .nil) 155 pB:=
 (G0 (E:=bare.env .nil) LL LK mixed (by kernel_rfl) (by kernel_rfl) (by kernel_rfl) (by kernel_rfl) (by kernel_rfl) (by kernel_rfl) (by kernel_rfl) (by kernel_rfl) (by kernel_rfl) (by kernel_rfl) (by kernel_rfl) (by kernel_rfl) (by kernel_rfl) (by kernel_rfl) (by kernel_rfl)).alike QJ
theorem ZV:iF Tryz.prog (ground.env .nil) 88 (sP 9 [127,323] [256]):=
 Go.AxC.D9 (i:=c_) (by kernel_rfl) (by kernel_rfl)
theorem Vr:iF Tryz.prog (ground.env .nil) 107 (lJ 51 [148] [] 109):=
 Go.AxC.D_ (i:=cF) (by kernel_rfl) (by kernel_rfl)
theorem Vq:iF Tryz.prog (ground.env .nil) 121 Lv:=
 (PM (E:=bare.env .nil) LL LK mixed (by kernel_rfl) (sz:=tG.size) (by_:=tG.bytes) (zv:=tG.zero) (sz9:=c_.size) (by9:=c_.bytes) (z9:=c_.zero) (by kernel_rfl) (by kernel_rfl)).alike QJ
theorem ZW:iF Tryz.prog (ground.env .nil) 73 (pP 9):=Go.AxC.H7 _ (i:=c_) (by kernel_rfl) (by kernel_rfl)
theorem Vp:iF Tryz.prog (ground.env .nil) 314 BR:=JS _
theorem Vo:iF Tryz.prog (ground.env .nil) 316 (Lu 5):=PL _ (i:=ty5) (by kernel_rfl) (by kernel_rfl) Tryz.underlying5
theorem H8:mO ground:=⟨GR,Ic,Il,Y4,⟨⟨ZW,⟨ZV,Vr⟩⟩,⟨Vq,⟨Vp,Vo⟩⟩⟩⟩
abbrev kN (s:BT (List V->Option V)):Prop:=s.zR (gO Tryz.prog (ground.env .nil))
abbrev wG (f:Nat) (t:List (List V × V)):Prop:=gO Tryz.prog (ground.env .nil) f (bO t)
theorem Og:kN sp0:=⟨⟨Ol,Oj⟩,⟨Oi,Oh⟩⟩
theorem eM {s:BT (List V->Option V)}(hs:kN s) {f:Nat}{F:Ax.Fn}(hF:LB.get f=some F) {t:List (List V × V)}(h:jV (ground.env s) f t=true):gO Tryz.prog (ground.env .nil) f (bO t):=H8.memo hs mixed hF (KX h)
theorem gW {s:BT (List V->Option V)}{f:Nat}{t:List (List V × V)}(h:wG f t) (k:kN s):kN (s.put f (bO t)):=BT.FQ (p:=gO Tryz.prog (ground.env .nil)) h k
theorem Un:wG 262 t262:=eM Og (F:=aA Tryz.f262) (by kernel_rfl) a262
theorem Ob:kN QS:=gW Un Og
theorem Uq:wG 233 t233:=eM Ob (F:=aA Tryz.f233) (by kernel_rfl) a233
theorem Oa:kN GC:=gW Uq Ob
theorem Uw:wG 193 t193:=eM Oa (F:=aA Tryz.f193) (by kernel_rfl) a193
theorem N_:kN IX:=gW Uw Oa
theorem Us:wG 206 t206:=eM N_ (F:=aA Tryz.f206) (by kernel_rfl) a206
theorem N9:kN sp4:=gW Us N_
theorem Uz:wG 144 t144:=eM N9 (F:=aA Tryz.f144) (by kernel_rfl) a144
theorem N8:kN Kt:=gW Uz N9
theorem Ur:wG 209 t209:=eM N8 (F:=aA Tryz.f209) (by kernel_rfl) a209
theorem N7:kN sp6:=gW Ur N8
theorem UA:wG 143 t143:=eM N7 (F:=aA Tryz.f143) (by kernel_rfl) a143
theorem N6:kN Ww:=gW UA N7
theorem UE:wG 115 t115:=eM N6 (F:=aA Tryz.f115) (by kernel_rfl) a115
theorem N5:kN sp8:=gW UE N6
theorem Uy:wG 154 t154:=eM N5 (F:=aA Tryz.f154) (by kernel_rfl) a154
theorem N4:kN sp9:=gW Uy N5
theorem UD:wG 116 t116:=eM N4 (F:=aA Tryz.f116) (by kernel_rfl) a116
theorem KO:kN Rj:=gW UD N4
theorem Xu:wG 61 t61:=eM KO (F:=aA Tryz.f61) (by kernel_rfl) a61
theorem KN:kN Um:=gW Xu KO
theorem Xt:wG 62 t62:=eM KN (F:=aA Tryz.f62) (by kernel_rfl) a62
theorem KM:kN Of:=gW Xt KN
theorem Xz:wG 13 t13:=eM KM (F:=aA Tryz.f13) (by kernel_rfl) a13
theorem KL:kN Oe:=gW Xz KM
theorem Xr:wG 72 t72:=eM KL (F:=aA Tryz.f72) (by kernel_rfl) a72
theorem KK:kN Od:=gW Xr KL
theorem Xy:wG 23 t23:=eM KK (F:=aA Tryz.f23) (by kernel_rfl) a23
theorem KJ:kN Rh:=gW Xy KK
theorem Xx:wG 25 t25:=eM KJ (F:=aA Tryz.f25) (by kernel_rfl) a25
theorem KI:kN Rf:=gW Xx KJ
theorem Xq:wG 82 t82:=eM KI (F:=aA Tryz.f82) (by kernel_rfl) a82
theorem KH:kN Re:=gW Xq KI
theorem Xp:wG 87 t87:=eM KH (F:=aA Tryz.f87) (by kernel_rfl) a87
theorem KG:kN Oc:=gW Xp KH
theorem Xv:wG 32 t32:=eM KG (F:=aA Tryz.f32) (by kernel_rfl) a32
theorem KF:kN Rc:=gW Xv KG
theorem Xw:wG 28 t28:=eM KF (F:=aA Tryz.f28) (by kernel_rfl) a28
theorem KE:kN Ul:=gW Xw KF
theorem UC:wG 133 t133:=eM KE (F:=aA Tryz.f133) (by kernel_rfl) a133
theorem KD:kN Uk:=gW UC KE
theorem UB:wG 136 t136:=eM KD (F:=aA Tryz.f136) (by kernel_rfl) a136
theorem KB:kN Uj:=gW UB KD
theorem Uv:wG 196 t196:=eM KB (F:=aA Tryz.f196) (by kernel_rfl) a196
theorem KA:kN Rb:=gW Uv KB
theorem Uu:wG 197 t197:=eM KA (F:=aA Tryz.f197) (by kernel_rfl) a197
theorem Kz:kN Ui:=gW Uu KA
theorem Ut:wG 200 t200:=eM Kz (F:=aA Tryz.f200) (by kernel_rfl) a200
theorem Ky:kN Ra:=gW Ut Kz
theorem Uo:wG 238 t238:=eM Ky (F:=aA Tryz.f238) (by kernel_rfl) a238
theorem Kx:kN Uh:=gW Uo Ky
theorem Ux:wG 171 t171:=eM Kx (F:=aA Tryz.f171) (by kernel_rfl) a171
theorem Kw:kN Ug:=gW Ux Kx
theorem UF:wG 106 t106:=eM Kw (F:=aA Tryz.f106) (by kernel_rfl) a106
theorem Kv:kN Uf:=gW UF Kw
theorem Xs:wG 70 t70:=eM Kv (F:=aA Tryz.f70) (by kernel_rfl) a70
theorem Ku:kN Ue:=gW Xs Kv
theorem Xo:wG 96 t96:=eM Ku (F:=aA Tryz.f96) (by kernel_rfl) a96
theorem Q_:kN WB:=gW Xo Ku
theorem XA:wG 11 t11:=eM Q_ (F:=aA Tryz.f11) (by kernel_rfl) a11
end Go.Proofs.YtmhchflckonklaaGreatDoor
end
section
namespace Go.Ax
open Go
section
def uU (r r':zQ):Prop:=∀c fr Z x,r c fr Z=some x->r' c fr Z=some x
section
variable {E:Env}{r r':zQ}
theorem Dv (h:uU r r') {F:Fn}{args:List V}{Z:Sg}{x:V × Sg}(he:enter E r F args Z=some x):enter E r' F args Z=some x:=by
 unfold enter at he ⊢
 cases hi:Fr.init F.ntmps args with
 |none=>rw[hi]at he;cases he
 |some fr=>
  rw[hi]at he
  dsimp only at he ⊢
  cases hr:r F.code fr Z with
  |none=>rw[hr]at he;cases he
  |some y=>rw[h _ _ _ _ hr];rw[hr]at he;exact he
theorem sZ (h:uU r r') {f:Nat}{args:List V}{Z:Sg}{x:V × Sg}(he:gM E r f args Z=some x):gM E r' f args Z=some x:=by
 unfold gM at he ⊢
 cases h1:E.hspec f with
 |some s=>rw[h1]at he;exact he
 |none=>
 rw[h1]at he
 dsimp only at he ⊢
 cases h2:E.spec f with
 |some s=>rw[h2]at he;exact he
 |none=>
 rw[h2]at he
 dsimp only at he ⊢
 cases h3:E.fn f with
 |none=>rw[h3]at he;cases he
 |some F=>
 rw[h3]at he
 dsimp only at he ⊢
 have fK:∀(g:Bool),(match aW (aT Z E.ty g) args with
    |some args'=>match enter E r F args' [] with
     |some (v,σ1)=>match cG σ1 E.ty false v with
      |some v=>some (v,if g then Z else kill Z (args.flatMap (mM Z)))
      |none=>no ("result of function " ++ toString f)
     |none=>no ("in function " ++ toString f)
    |none=>no ("args of function " ++ toString f))=some x->(match aW (aT Z E.ty g) args with
    |some args'=>match enter E r' F args' [] with
     |some (v,σ1)=>match cG σ1 E.ty false v with
      |some v=>some (v,if g then Z else kill Z (args.flatMap (mM Z)))
      |none=>no ("result of function " ++ toString f)
     |none=>no ("in function " ++ toString f)
    |none=>no ("args of function " ++ toString f))=some x:=by
  intro g he
  cases h4:aW (aT Z E.ty g) args with
  |none=>rw[h4]at he;cases he
  |some args'=>
   rw[h4]at he
   dsimp only at he ⊢
   cases h5:enter E r F args' [] with
   |none=>rw[h5]at he;cases he
   |some y=>rw[Dv h h5];rw[h5]at he;exact he
 cases hm:E.mode f with
 |shared=>
  rw[hm]at he
  dsimp only at he ⊢
  cases h5:enter E r F args Z with
  |none=>rw[h5]at he;cases he
  |some y=>rw[Dv h h5];rw[h5]at he;exact he
 |fK=>rw[hm]at he;exact fK _ he
 |move=>rw[hm]at he;exact fK _ he
theorem yI (h:uU r r') {dr:Fz}{op:Op}{fr:Fr}{Z:Sg}{x:V × Sg}(he:jF E r dr op fr Z=some x):jF E r' dr op fr Z=some x:=by
 unfold jF at he ⊢
 cases hc:comp E op with
 |plain f=>rw[hc]at he;exact he
 |lit t len parts=>rw[hc]at he;exact he
 |app args ats=>rw[hc]at he;exact he
 |call f args=>
  rw[hc]at he
  dsimp only at he ⊢
  split at he
  ·exact sZ h he
  ·cases he
theorem Cl (h:uU r r') {dr:Fz}{ops:Array Oper}{o:Oper}{fr:Fr}{Z:Sg}{x:Fr × Sg}(he:bJ E r dr ops o fr Z=some x):bJ E r' dr ops o fr Z=some x:=by
 unfold bJ at he ⊢
 split at he
 ·rename_i hw
  rw[bf hw]
  cases ho:jF E r dr o.op fr Z with
  |none=>rw[ho]at he;cases he
  |some y=>rw[yI h ho];rw[ho]at he;exact he
 ·rename_i hw
  rw[az hw];exact he
theorem sV (h:uU r r') {dr:Fz}{ops:Array Oper}:∀{l:List Oper}{fr:Fr}{Z:Sg}{x:Fr × Sg},gY E r dr ops l fr Z=some x->gY E r' dr ops l fr Z=some x
 | [],_,_,_,he=>he
 |o::l,fr,Z,x,he=>by
  rw[gY]at he ⊢
  cases ho:bJ E r dr ops o fr Z with
  |none=>rw[ho]at he;cases he
  |some y=>rw[Cl h ho];rw[ho]at he;exact sV h he
theorem Cf (h:uU r r') {dr:Fz}{ops:Array Oper}:∀{l:List Oper}{fr:Fr}{Z:Sg}{x:List (Fr × Sg)},fF E r dr ops l fr Z=some x->fF E r' dr ops l fr Z=some x
 | [],_,_,_,he=>he
 |o::l,fr,Z,x,he=>by
  rw[fF]at he ⊢
  cases ho:bJ E r dr ops o fr Z with
  |none=>rw[ho]at he;cases he
  |some y=>
   rw[Cl h ho];rw[ho]at he
   dsimp only at he ⊢
   cases ht:fF E r dr ops l y.1 y.2 with
   |none=>rw[ht]at he;cases he
   |some z=>rw[Cf h ht];rw[ht]at he;exact he
theorem DL (h:uU r r') {dr:Fz}{ops:Array Oper}{o:Oper}{fr:Fr}{Z Y:Sg}(he:again E r dr ops o fr Z Y=true):again E r' dr ops o fr Z Y=true:=by
 unfold again at he ⊢
 rw[fq]at he ⊢
 refine he.imp id λhe=>?_
 cases h1:jF E r dr o.op fr Z with
 |none=>rw[h1]at he;cases he
 |some y=>
  rw[h1]at he
  rw[yI h h1]
  cases h2:jF E r dr o.op fr Y with
  |none=>rw[h2]at he;cases he
  |some z=>rw[h2]at he;rw[yI h h2];exact he
theorem Hz (h:uU r r') {dr:Fz}{ops:Array Oper}{ts:List (Fr × Sg)}{d:Ee}(he:eL E r dr ops ts d=true):eL E r' dr ops ts d=true:=by
 unfold eL at he ⊢
 split at he
 ·simp only[aj,fq]at he ⊢
  exact⟨he.1.imp id (DL h),he.2.imp id (DL h)⟩
 ·cases he
theorem uO (h:uU r r') {ops:Array Oper}{fr:Fr}{Z:Sg}{x:Fr × Sg}(he:bW E r ops fr Z=some x):bW E r' ops fr Z=some x:=by
 unfold bW at he ⊢
 split at he
 ·cases he
 ·exact sV h he
 ·rename_i l hn e
  cases ht:fF E r (fT E ops) ops ops.toList fr Z with
  |none=>rw[ht]at he;cases he
  |some ts=>
   rw[ht]at he
   rw[Cf h ht]
   dsimp only at he ⊢
   split at he
   ·rename_i hl
    rw[bf]
    ·cases l with
     |nil=>exact absurd rfl (hn ·)
     |cons d l=>exact he
    ·rw[er]at hl ⊢
     exact λd hd=>Hz h (hl d hd)
   ·cases he
end
theorem Ij (E:Env):∀n,uU (ev E n) (ev E (n+1))
 |0=>λc fr Z x h=>by rw[ev]at h;cases h
 |n+1=>λc fr Z x h=>by
  have ih:=Ij E n
  cases c with
  |skip=>rw[ev]at h ⊢;exact h
  |exit id=>rw[ev]at h ⊢;exact h
  |ret=>rw[ev]at h ⊢;exact h
  |seq a b=>
   rw[ev]at h ⊢
   try dsimp only at h ⊢
   cases ha:ev E n a fr Z with
   |none=>rw[ha]at h;cases h
   |some y=>
    rw[ih _ _ _ _ ha];rw[ha]at h
    obtain⟨x1,fr1,σ1⟩:=y
    cases x1 with
    |normal=>exact ih _ _ _ _ h
    |exit id=>cases h;rfl
    |ret=>cases h;rfl
  |cond c t e=>
   rw[ev]at h ⊢
   try dsimp only at h ⊢
   split at h
   ·exact ih _ _ _ _ h
   ·exact ih _ _ _ _ h
   ·cases h
  |block id a=>
   rw[ev]at h ⊢
   try dsimp only at h ⊢
   cases ha:ev E n a fr Z with
   |none=>rw[ha]at h;cases h
   |some y=>rw[ih _ _ _ _ ha];rw[ha]at h;exact h
  |loop a=>
   rw[ev]at h ⊢
   try dsimp only at h ⊢
   cases ha:ev E n a fr Z with
   |none=>rw[ha]at h;cases h
   |some y=>
    rw[ih _ _ _ _ ha];rw[ha]at h
    obtain⟨x1,fr1,σ1⟩:=y
    cases x1 with
    |normal=>exact ih _ _ _ _ h
    |exit id=>cases h;rfl
    |ret=>cases h;rfl
  |region id ops draw=>
   rw[ev]at h ⊢
   try dsimp only at h ⊢
   cases draw with
   |true=>
    simp only[bh]at h ⊢
    cases ha:bW E (ev E n) ops fr Z with
    |none=>rw[ha]at h;cases h
    |some y=>rw[uO ih ha];rw[ha]at h;exact h
   |false=>
    simp only[ai,ay]at h ⊢
    cases ha:gY E (ev E n) .no ops ops.toList fr Z with
    |none=>rw[ha]at h;cases h
    |some y=>rw[sV ih ha];rw[ha]at h;exact h
  |_=>unfold ev at h;cases h
theorem mJ (E : Env) {n m : Nat} (h : n <= m) : uU (ev E n) (ev E m) := by
  induction m with
  | zero => obtain rfl : n = 0 := by omega
            exact fun _ _ _ _ h => h
  | succ m ih =>
    by_cases e : n = m + 1
    · subst e; exact fun _ _ _ _ h => h
    · exact fun c fr Z x hx => Ij E m _ _ _ _ (ih (by omega) c fr Z x hx)
def Wp (E:Env) (c:Code) (fr:Fr) (Z:Sg) (Q:X->Fr->Sg->Prop):Prop:=∃n x fr' σ',ev E n c fr Z=some (x,fr',σ')/\Q x fr' σ'
def tO (E:Env) (ops:Array Oper) (l:List Oper) (fr:Fr) (Z:Sg) (Q:Fr->Sg->Prop):Prop:=∃n fr' σ',gY E (ev E n) .no ops l fr Z=some (fr',σ')/\Q fr' σ'
def QL (E:Env) (ops:Array Oper) (fr:Fr) (Z:Sg) (Q:Fr->Sg->Prop):Prop:=∃n fr' σ',bW E (ev E n) ops fr Z=some (fr',σ')/\Q fr' σ'
def kM (E:Env) (op:Op) (fr:Fr) (Z:Sg) (K:V->Sg->Prop):Prop:=∃n v σ',jF E (ev E n) .no op fr Z=some (v,σ')/\K v σ'
def aB (E:Env) (f:Nat) (args:List V) (Z:Sg) (K:V->Sg->Prop):Prop:=∃n v σ',gM E (ev E n) f args Z=some (v,σ')/\K v σ'
section
variable {E:Env}{fr:Fr}{Z:Sg}{Q:X->Fr->Sg->Prop}
theorem Wp.of {n:Nat}{c:Code}{x:X}{fr':Fr}{σ':Sg}(h:ev E n c fr Z=some (x,fr',σ'))(hq:Q x fr' σ'):Wp E c fr Z Q:=⟨n,x,fr',σ',h,hq⟩
theorem Wp.mono {Q':X->Fr->Sg->Prop}{c:Code}(h:Wp E c fr Z Q)(hq:∀x fr Z,Q x fr Z->Q' x fr Z):Wp E c fr Z Q':=by
 obtain⟨n,x,fr',σ',h1,h2⟩:=h
 exact⟨n,x,fr',σ',h1,hq _ _ _ h2⟩
theorem wp_skip:Wp E .skip fr Z Q=Q .normal fr Z:=propext ⟨λ⟨n,x,fr',σ',h,hq⟩=>by
 cases n with
 |zero=>cases h
 |succ n=>rw[ev]at h;cases h;exact hq,λh=>⟨1,_,_,_,rfl,h⟩⟩
theorem wp_exit {id:Nat}:Wp E (.exit id) fr Z Q=Q (.exit id) fr Z:=propext ⟨λ⟨n,x,fr',σ',h,hq⟩=>by
 cases n with
 |zero=>cases h
 |succ n=>rw[ev]at h;cases h;exact hq,λh=>⟨1,_,_,_,rfl,h⟩⟩
theorem wp_ret:Wp E .ret fr Z Q=Q .ret fr Z:=propext ⟨λ⟨n,x,fr',σ',h,hq⟩=>by
 cases n with
 |zero=>cases h
 |succ n=>rw[ev]at h;cases h;exact hq,λh=>⟨1,_,_,_,rfl,h⟩⟩
theorem wp_seq {a b:Code}:Wp E (.seq a b) fr Z Q=Wp E a fr Z λx fr Z=>match x with
  | .normal=>Wp E b fr Z Q
  |x=>Q x fr Z:=propext ⟨λ⟨n,x,fr',σ',h,hq⟩=>by
 cases n with
 |zero=>cases h
 |succ n=>
  rw[ev]at h
  try dsimp only at h
  cases ha:ev E n a fr Z with
  |none=>rw[ha]at h;cases h
  |some y=>
   rw[ha]at h
   obtain⟨x1,fr1,σ1⟩:=y
   refine⟨n,x1,fr1,σ1,ha,?_⟩
   cases x1 with
   |normal=>exact⟨n,x,fr',σ',h,hq⟩
   |_=>cases h;exact hq,λ⟨n,x,fr1,σ1,h,hq⟩=>by
 cases x with
 |normal=>
  obtain⟨m,x,fr',σ',h2,hq⟩:=hq
  refine⟨max n m+1,x,fr',σ',?_,hq⟩
  rw[ev]
  try dsimp only
  rw[mJ E (Nat.le_max_left n m) _ _ _ _ h]
  exact mJ E (Nat.le_max_right n m) _ _ _ _ h2
 |exit id=>exact⟨n+1,_,fr1,σ1,by rw[ev]; (try dsimp only);rw[h],hq⟩
 |ret=>exact⟨n+1,_,fr1,σ1,by rw[ev]; (try dsimp only);rw[h],hq⟩⟩
theorem wp_cond {c:Operand}{t e:Code}:Wp E (.cond c t e) fr Z Q=match aX fr c with
  |some (.bool true)=>Wp E t fr Z Q
  |some (.bool false)=>Wp E e fr Z Q
  |_=>False:=by
 apply propext
 constructor
 ·rintro⟨n,x,fr',σ',h,hq⟩
  cases n with
  |zero=>cases h
  |succ n=>
   rw[ev]at h
   try dsimp only at h
   split at h
   ·rename_i e1
    rw[e1];exact⟨n,_,_,_,h,hq⟩
   ·rename_i e1
    rw[e1];exact⟨n,_,_,_,h,hq⟩
   ·cases h
 ·intro h
  split at h
  ·rename_i e1
   obtain⟨n,x,fr',σ',h,hq⟩:=h
   refine⟨n+1,x,fr',σ',?_,hq⟩
   rw[ev]; (try dsimp only);rw[e1];exact h
  ·rename_i e1
   obtain⟨n,x,fr',σ',h,hq⟩:=h
   refine⟨n+1,x,fr',σ',?_,hq⟩
   rw[ev]; (try dsimp only);rw[e1];exact h
  ·exact h.elim
theorem wp_block {id:Nat}{c:Code}:Wp E (.block id c) fr Z Q=Wp E c fr Z λx fr Z=>match x with
  | .exit id'=>if id'=id then Q .normal fr Z else Q (.exit id') fr Z
  |x=>Q x fr Z:=propext ⟨λ⟨n,x,fr',σ',h,hq⟩=>by
 cases n with
 |zero=>cases h
 |succ n=>
  rw[ev]at h
  try dsimp only at h
  cases ha:ev E n c fr Z with
  |none=>rw[ha]at h;cases h
  |some y=>
   rw[ha]at h
   obtain⟨x1,fr1,σ1⟩:=y
   refine⟨n,x1,fr1,σ1,ha,?_⟩
   cases x1 with
   |exit id'=>
    try dsimp only at h ⊢
    split at h
    ·rename_i e;rw[bf e];cases h;exact hq
    ·rename_i e;rw[az e];cases h;exact hq
   |_=>cases h;exact hq,λ⟨n,x,fr1,σ1,h,hq⟩=>by
 cases x with
 |exit id'=>
  try dsimp only at hq
  split at hq
  ·rename_i e;exact⟨n+1,_,fr1,σ1,by rw[ev]; (try dsimp only);rw[h]; (try dsimp only);rw[bf e],hq⟩
  ·rename_i e;exact⟨n+1,_,fr1,σ1,by rw[ev]; (try dsimp only);rw[h]; (try dsimp only);rw[az e],hq⟩
 |normal=>exact⟨n+1,_,fr1,σ1,by rw[ev]; (try dsimp only);rw[h],hq⟩
 |ret=>exact⟨n+1,_,fr1,σ1,by rw[ev]; (try dsimp only);rw[h],hq⟩⟩
theorem wp_loop {c:Code}:Wp E (.loop c) fr Z Q=Wp E c fr Z λx fr Z=>match x with
  | .normal=>Wp E (.loop c) fr Z Q
  |x=>Q x fr Z:=propext ⟨λ⟨n,x,fr',σ',h,hq⟩=>by
 cases n with
 |zero=>cases h
 |succ n=>
  rw[ev]at h
  try dsimp only at h
  cases ha:ev E n c fr Z with
  |none=>rw[ha]at h;cases h
  |some y=>
   rw[ha]at h
   obtain⟨x1,fr1,σ1⟩:=y
   refine⟨n,x1,fr1,σ1,ha,?_⟩
   cases x1 with
   |normal=>exact⟨n,x,fr',σ',h,hq⟩
   |_=>cases h;exact hq,λ⟨n,x,fr1,σ1,h,hq⟩=>by
 cases x with
 |normal=>
  obtain⟨m,x,fr',σ',h2,hq⟩:=hq
  refine⟨max n m+1,x,fr',σ',?_,hq⟩
  rw[ev]
  try dsimp only
  rw[mJ E (Nat.le_max_left n m) _ _ _ _ h]
  exact mJ E (Nat.le_max_right n m) _ _ _ _ h2
 |exit id=>exact⟨n+1,_,fr1,σ1,by rw[ev]; (try dsimp only);rw[h],hq⟩
 |ret=>exact⟨n+1,_,fr1,σ1,by rw[ev]; (try dsimp only);rw[h],hq⟩⟩
theorem ND {id:Nat}{ops:Array Oper}:Wp E (.region id ops false) fr Z Q=tO E ops ops.toList fr Z (Q .normal):=propext ⟨λ⟨n,x,fr',σ',h,hq⟩=>by
 cases n with
 |zero=>cases h
 |succ n=>
  rw[ev]at h
  simp only[ai,ay]at h
  cases ha:gY E (ev E n) .no ops ops.toList fr Z with
  |none=>rw[ha]at h;cases h
  |some y=>rw[ha]at h;cases h;exact⟨n,_,_,ha,hq⟩,λ⟨n,fr1,σ1,h,hq⟩=>⟨n+1,_,fr1,σ1,by rw[ev];simp only[ai,ay];rw[h],hq⟩⟩
theorem Kk {id:Nat}{ops:Array Oper}:Wp E (.region id ops true) fr Z Q=QL E ops fr Z (Q .normal):=propext ⟨λ⟨n,x,fr',σ',h,hq⟩=>by
 cases n with
 |zero=>cases h
 |succ n=>
  rw[ev]at h
  simp only[bh]at h
  cases ha:bW E (ev E n) ops fr Z with
  |none=>rw[ha]at h;cases h
  |some y=>rw[ha]at h;cases h;exact⟨n,_,_,ha,hq⟩,λ⟨n,fr1,σ1,h,hq⟩=>⟨n+1,_,fr1,σ1,by rw[ev];simp only[bh];rw[h],hq⟩⟩
section
variable {ops:Array Oper}{Q:Fr->Sg->Prop}
theorem LY:tO E ops [] fr Z Q=Q fr Z:=propext ⟨λ⟨n,fr',σ',h,hq⟩=>by rw[gY]at h;cases h;exact hq,λh=>⟨0,fr,Z,rfl,h⟩⟩
theorem wpOps_cons {o:Oper}{l:List Oper}:tO E ops (o::l) fr Z Q=if bV ops o fr=true then kM E o.op fr Z (λv Z=>tO E ops l (eK fr o.dst v) Z Q) else tO E ops l (eK fr o.dst .undef) Z Q:=by
 by_cases hw:bV ops o fr=true
 ·rw[bf hw]
  refine propext ⟨λ⟨n,fr',σ',h,hq⟩=>?_,λ⟨n,v,σ1,h,m,fr',σ',h2,hq⟩=>?_⟩
  ·rw[gY]at h
   unfold bJ at h
   rw[bf hw]at h
   cases ho:jF E (ev E n) .no o.op fr Z with
   |none=>rw[ho]at h;cases h
   |some y=>rw[ho]at h;exact⟨n,y.1,y.2,ho,n,fr',σ',h,hq⟩
  ·refine⟨max n m,fr',σ',?_,hq⟩
   rw[gY]
   unfold bJ
   rw[bf hw,yI (mJ E (Nat.le_max_left n m)) h]
   exact sV (mJ E (Nat.le_max_right n m)) h2
 ·rw[az hw]
  refine propext ⟨λ⟨n,fr',σ',h,hq⟩=>?_,λ⟨n,fr',σ',h,hq⟩=>?_⟩
  ·rw[gY]at h
   unfold bJ at h
   rw[az hw]at h
   exact⟨n,fr',σ',h,hq⟩
  ·refine⟨n,fr',σ',?_,hq⟩
   rw[gY]
   unfold bJ
   rw[az hw]
   exact h
end
section
variable {K:V->Sg->Prop}
def got (o:Option (V × Sg)) (K:V->Sg->Prop):Prop:=match o with
 |some (v,Z)=>K v Z
 |none=>False
theorem H9 {v:V}:got (some (v,Z)) K=K v Z:=rfl
theorem bY {op:Op}{f:Fr->Sg->Option (V × Sg)}(h:comp E op=.plain f):kM E op fr Z K=got (f fr Z) K:=by
 unfold kM jF
 rw[h]
 try dsimp only
 cases f fr Z with
 |none=>exact propext ⟨λ⟨_,_,_,h,_⟩=>(by cases h),λh=>h.elim⟩
 |some y=>exact propext ⟨λ⟨_,_,_,h,hk⟩=>(by cases h;exact hk),λh=>⟨0,_,_,rfl,h⟩⟩
end
theorem aB.of {f:Nat}{args:List V}{v:V}{σ':Sg}{K:V->Sg->Prop}(h:aB E f args Z λu Y=>u=v/\Y=σ'):aB E f args Z K=K v σ':=by
 obtain⟨n,u,Y,h,rfl,rfl⟩:=h
 refine propext ⟨λ⟨m,w,ρ,h2,hk⟩=>?_,λhk=>⟨n,u,Y,h,hk⟩⟩
 have a:=sZ (mJ E (Nat.le_max_left n m)) h
 rw[sZ (mJ E (Nat.le_max_right n m)) h2]at a
 cases a
 exact hk
end
end
section
def FT.set (F:FT) (t:Nat) (v:V):FT:=FT.put v (t+1) F t
theorem FT.eB {F:FT}{u t:Nat}{v:V}:(FT.set F u v).get t=if t=u then v else F.get t:=FT.aH v (u+1) F u t (by omega)
theorem Fr.ON {n u:Nat}{F:FT}{v:V}:Fr.put ⟨n,F⟩ u v=if u<n then ⟨n,FT.set F u v⟩ else ⟨n,F⟩:=by
 unfold Fr.put
 cases h:Nat.blt u n with
 |true=>rw[o6]at h;rw[bf h];rfl
 |false=>rw[az];intro g;rw[<- o6]at g;rw[h]at g;cases g
theorem Fr.Vs {n t:Nat}{F:FT}:Fr.get ⟨n,F⟩ t=if t<n then some (F.get t) else none:=by
 unfold Fr.get
 cases h:Nat.blt t n with
 |true=>rw[o6]at h;rw[bf h]
 |false=>rw[az];intro g;rw[<- o6]at g;rw[h]at g;cases g
section
variable {E:Env}{fr:Fr}{Z:Sg}{ops:Array Oper}{l:List Oper}{Q:Fr->Sg->Prop}{dst:Option Nat}{op:Op}{ty:Nat}{pos:String}{after:Array Edge}
theorem B6:tO E ops (⟨dst,op,ty,pos,after,none⟩::l) fr Z Q=kM E op fr Z λv Z=>tO E ops l (eK fr dst v) Z Q:=by
 rw[wpOps_cons];exact bf rfl
end
section
variable {E:Env}{fr:Fr}{Z:Sg}{K:V->Sg->Prop}
theorem dK {o:Option (V × Sg)}:got o K=(match o with
  |some (v,Z)=>K v Z
  |none=>False):=rfl
def app3 (a b c:List V):Option (List V):=some (a++b++c)
theorem L5 {x:Operand}:kM E (.move x) fr Z K=(match (aX fr x).map (·,Z) with
  |some (v,Z)=>K v Z
  |none=>False):=(bY (f:=λfr Z=>(aX fr x).map (·,Z)) rfl).trans dK
theorem GI {x:Operand}:kM E (.assign x) fr Z K=(match (aX fr x).map (·,Z) with
  |some (v,Z)=>K v Z
  |none=>False):=(bY (f:=λfr Z=>(aX fr x).map (·,Z)) rfl).trans dK
theorem L0 {c a b:Operand}:kM E (.pick c a b) fr Z K=(match jX E fr Z c a b with
  |some (v,Z)=>K v Z
  |none=>False):=(bY (f:=λfr Z=>jX E fr Z c a b) rfl).trans dK
theorem I9 {e:Nat}:kM E (.alloc e) fr Z K=(match sE E fr Z e with
  |some (v,Z)=>K v Z
  |none=>False):=(bY (f:=λfr Z=>sE E fr Z e) rfl).trans dK
theorem NF {e:Nat}{x:Operand}:kM E (.box e x) fr Z K=(match Hx E fr Z e x with
  |some (v,Z)=>K v Z
  |none=>False):=(bY (f:=λfr Z=>Hx E fr Z e x) rfl).trans dK
theorem I7 {t:Nat}{parts:Array (Nat × Operand)}:kM E (.build t parts) fr Z K=(match qP E fr Z t parts with
  |some (v,Z)=>K v Z
  |none=>False):=(bY (f:=λfr Z=>qP E fr Z t parts) rfl).trans dK
theorem Bo {t len:Nat}{parts:Array (Nat × Operand)}:kM E (.buildSlice t len parts) fr Z K=(match fS E fr Z t len parts with
  |some (v,Z)=>K v Z
  |none=>False):=by
 refine propext ⟨λ⟨_,v,σ',h,hk⟩=>?_,λh=>?_⟩
 ·have h:fS E fr Z t len parts=some (v,σ'):=h
  rw[h];exact hk
 ·split at h
  ·rename_i v σ' e
   exact⟨0,v,σ',e,h⟩
  ·exact h.elim
theorem L6 {t:Nat}{a:Operand}:kM E (.load t a) fr Z K=(match iN E fr Z t a with
  |some (v,Z)=>K v Z
  |none=>False):=(bY (f:=λfr Z=>iN E fr Z t a) rfl).trans dK
theorem I2 {t:Nat}{a x:Operand}:kM E (.store t a x) fr Z K=(match jW E fr Z t a x with
  |some (v,Z)=>K v Z
  |none=>False):=(bY (f:=λfr Z=>jW E fr Z t a x) rfl).trans dK
theorem DT {x:Operand}:kM E (.nilCheck x) fr Z K=(match jI E fr Z x with
  |some (v,Z)=>K v Z
  |none=>False):=(bY (f:=λfr Z=>jI E fr Z x) rfl).trans dK
theorem I8 {op:BinOp}{t u:Nat}{x y:Operand}:kM E (.binOp op t x y u) fr Z K=(match fB E fr Z op t x y with
  |some (v,Z)=>K v Z
  |none=>False):=(bY (f:=λfr Z=>fB E fr Z op t x y) rfl).trans dK
theorem LZ {op:UnOp}{t:Nat}{x:Operand}:kM E (.unOp op t x) fr Z K=(match oF E fr Z op x with
  |some (v,Z)=>K v Z
  |none=>False):=(bY (f:=λfr Z=>oF E fr Z op x) rfl).trans dK
theorem Fx {s d:Nat}{x:Operand}:kM E (.convert s d x) fr Z K=(match mD E fr Z s d x with
  |some (v,Z)=>K v Z
  |none=>False):=(bY (f:=λfr Z=>mD E fr Z s d x) rfl).trans dK
theorem I4 {t:Nat}{x:Operand}:kM E (.range t x) fr Z K=(match pL E fr Z t x with
  |some (v,Z)=>K v Z
  |none=>False):=(bY (f:=λfr Z=>pL E fr Z t x) rfl).trans dK
theorem L2 {x:Operand}:kM E (.next x true) fr Z K=(match vZ E fr Z x with
  |some (v,Z)=>K v Z
  |none=>False):=(bY (f:=λfr Z=>vZ E fr Z x) rfl).trans dK
theorem wH {t:Nat}{x:Operand}:kM E (.makeInterface t x) fr Z K=(match eE E fr Z t x with
  |some (v,Z)=>K v Z
  |none=>False):=(bY (f:=λfr Z=>eE E fr Z t x) rfl).trans dK
theorem DU {f:Nat}{a b:Array Operand}:kM E (.makeFunc (.func f) a b) fr Z K=(match jJ E fr Z f a b with
  |some (v,Z)=>K v Z
  |none=>False):=(bY (f:=λfr Z=>jJ E fr Z f a b) rfl).trans dK
theorem Fv {t:Nat}{r:Option Operand}:kM E (.makeMap t r) fr Z K=(match mC E fr Z t r with
  |some (v,Z)=>K v Z
  |none=>False):=(bY (f:=λfr Z=>mC E fr Z t r) rfl).trans dK
theorem B8 {t:Nat}{l c:Operand}:kM E (.makeSlice t l c) fr Z K=(match jY E fr Z t l c with
  |some (v,Z)=>K v Z
  |none=>False):=(bY (f:=λfr Z=>jY E fr Z t l c) rfl).trans dK
theorem I3 {t:Nat}{x:Operand}{lo hi mx:Option Operand}:kM E (.slice t x lo hi mx) fr Z K=(match sD E fr Z t x lo hi mx with
  |some (v,Z)=>K v Z
  |none=>False):=(bY (f:=λfr Z=>sD E fr Z t x lo hi mx) rfl).trans dK
theorem B_ {t f:Nat}{x:Operand}:kM E (.fieldAddr t x f) fr Z K=(match iJ E fr Z t x f with
  |some (v,Z)=>K v Z
  |none=>False):=(bY (f:=λfr Z=>iJ E fr Z t x f) rfl).trans dK
theorem I6 {t f:Nat}{x:Operand}:kM E (.field t x f) fr Z K=(match qO E fr Z t x f with
  |some (v,Z)=>K v Z
  |none=>False):=(bY (f:=λfr Z=>qO E fr Z t x f) rfl).trans dK
theorem B9 {t:Nat}{x i:Operand}:kM E (.indexAddr t x i) fr Z K=(match cB E fr Z t x i with
  |some (v,Z)=>K v Z
  |none=>False):=(bY (f:=λfr Z=>cB E fr Z t x i) rfl).trans dK
theorem I5 {t:Nat}{x i:Operand}:kM E (.index t x i) fr Z K=(match qN E fr Z t x i with
  |some (v,Z)=>K v Z
  |none=>False):=(bY (f:=λfr Z=>qN E fr Z t x i) rfl).trans dK
theorem GH {t:Nat}{x k:Operand}{ok:Bool}:kM E (.lookup t x k ok) fr Z K=(match d_ E fr Z t x k ok with
  |some (v,Z)=>K v Z
  |none=>False):=(bY (f:=λfr Z=>d_ E fr Z t x k ok) rfl).trans dK
theorem B7 {t:Nat}{m k x:Operand}:kM E (.mapUpdate t m k x) fr Z K=(match dW E fr Z t m k x with
  |some (v,Z)=>K v Z
  |none=>False):=(bY (f:=λfr Z=>dW E fr Z t m k x) rfl).trans dK
theorem Fw {t:Operand}{i:Nat}:kM E (.extract t i) fr Z K=(match cR E fr Z t i with
  |some (v,Z)=>K v Z
  |none=>False):=(bY (f:=λfr Z=>cR E fr Z t i) rfl).trans dK
theorem Fy {b:Builtin}{args:Array Operand}{ats:Array Nat}:kM E (.call { callee:=.builtin b,args:=args,argTypes:=ats }) fr Z K=(match eP E fr Z b args ats with
  |some (v,Z)=>K v Z
  |none=>False):=by
 refine propext ⟨λ⟨_,v,σ',h,hk⟩=>?_,λh=>?_⟩
 ·have h:eP E fr Z b args ats=some (v,σ'):=by cases b <;> exact h
  rw[h];exact hk
 ·split at h
  ·rename_i v σ' e
   exact⟨0,v,σ',by cases b <;> exact e,h⟩
  ·exact h.elim
theorem L7 {f:Operand}{args:Array Operand}{ats:Array Nat}:kM E (.call { callee:=.value f,args:=args,argTypes:=ats }) fr Z K=match aX fr f,fD fr args.toList with
  |some (.fn k first cap),some l=>(match app3 first l cap with
   |some l=>aB E k l Z K
   |none=>False)
  |_,_=>False:=by
 refine propext ⟨λ⟨n,v,σ',h,hk⟩=>?_,λh=>?_⟩
 ·have h:(match aX fr f,fD fr args.toList with
   |some (.fn k first cap),some l=>gM E (ev E n) k (first++l++cap) Z
   |_,_=>no "call")=some (v,σ'):=h
  split at h
  ·exact⟨n,v,σ',h,hk⟩
  ·cases h
 ·split at h
  ·rename_i e1 e2
   obtain⟨n,v,σ',h,hk⟩:=h
   refine⟨n,v,σ',?_,hk⟩
   show (match aX fr f,fD fr args.toList with
    |some (.fn k first cap),some l=>gM E (ev E n) k (first++l++cap) Z
    |_,_=>no "call")=some (v,σ')
   rw[e1,e2];exact h
  ·exact h.elim
def FN (E:Env) (rs:List ResultVar) (K:V->Sg->Prop) (fr:Fr) (Z:Sg):Prop:=match results E fr Z rs with
 |some [v]=>K v Z
 |some vs=>K (.gR vs) Z
 |none=>False
def nN (E:Env) (F:Fn) (args:List V) (Z:Sg) (K:V->Sg->Prop):Prop:=match Fr.init F.ntmps args with
 |none=>False
 |some fr=>Wp E F.code fr Z λx fr Z=>match x with
  | .exit _=>False
  |_=>FN E F.results K fr Z
theorem tT {F:Fn}{args:List V}:nN E F args Z K ↔ ∃n v σ',enter E (ev E n) F args Z=some (v,σ')/\K v σ':=by
 unfold nN enter
 cases hi:Fr.init F.ntmps args with
 |none=>exact⟨λh=>h.elim,λ⟨_,_,_,h,_⟩=>by cases h⟩
 |some fr=>
  try dsimp only
  constructor
  ·rintro⟨n,x,fr',σ',h,hq⟩
   refine⟨n,?_⟩
   rw[h]
   cases x with
   |exit id=>exact hq.elim
   |normal=>
    simp only[FN]at hq
    split at hq
    ·rename_i v e;exact⟨v,σ',by simp only[e],hq⟩
    ·rename_i vs hn e
     refine⟨.gR vs,σ',?_,hq⟩
     simp only[e]
    ·exact hq.elim
   |ret=>
    simp only[FN]at hq
    split at hq
    ·rename_i v e;exact⟨v,σ',by simp only[e],hq⟩
    ·rename_i vs hn e
     refine⟨.gR vs,σ',?_,hq⟩
     simp only[e]
    ·exact hq.elim
  ·rintro⟨n,v,σ',h,hk⟩
   have fin:∀(fr1:Fr) (σ1:Sg),(match results E fr1 σ1 F.results with
     |some [v]=>some (v,σ1)
     |some vs=>some (V.gR vs,σ1)
     |none=>no "results")=some (v,σ')->FN E F.results K fr1 σ1:=by
    intro fr1 σ1 h
    unfold FN
    split at h
    ·cases h;exact hk
    ·rename_i vs hn e
     cases h
     cases vs with
     |nil=>exact hk
     |cons a l=>cases l with
      |nil=>exact absurd rfl (hn a)
      |cons b l=>exact hk
    ·cases h
   cases he:ev E n F.code fr Z with
   |none=>rw[he]at h;cases h
   |some y=>
    obtain⟨x,fr1,σ1⟩:=y
    rw[he]at h
    refine⟨n,x,fr1,σ1,he,?_⟩
    cases x with
    |exit id=>cases h
    |normal=>exact fin _ _ h
    |ret=>exact fin _ _ h
theorem oK {f:Nat}{args:List V}{s:List V->Sg->Option (V × Sg)}(h1:E.hspec f=some s):aB E f args Z K=got (s args Z) K:=by
 unfold aB gM
 rw[h1]
 dsimp only
 cases s args Z with
 |none=>exact propext ⟨λ⟨_,_,_,h,_⟩=>(by cases h),λh=>h.elim⟩
 |some y=>exact propext ⟨λ⟨_,_,_,h,hk⟩=>(by cases h;exact hk),λh=>⟨0,_,_,rfl,h⟩⟩
theorem tU {f:Nat}{args args':List V}{s:List V->Option V}{v v':V}(h1:E.hspec f=none)(h2:E.spec f=some s)(h3:aW (aT Z E.ty true) args=some args')(h4:s args'=some v)(h5:cG [] E.ty false v=some v'):aB E f args Z K=K v' Z:=by
 have:∀r,gM E r f args Z=some (v',Z):=λr=>by
  unfold gM
  rw[h1,h2,h3]
  dsimp only
  rw[h4]
  dsimp only
  rw[h5]
 exact propext ⟨λ⟨n,_,_,h,hk⟩=>(by rw[this]at h;cases h;exact hk),λh=>⟨0,_,_,this _,h⟩⟩
theorem dR {f:Nat}{args:List V}{F:Fn}(h1:E.hspec f=none)(h2:E.spec f=none)(h3:E.fn f=some F)(h4:E.mode f=.shared):aB E f args Z K=nN E F args Z K:=by
 rw[propext tT]
 unfold aB gM
 rw[h1,h2,h3,h4]
 dsimp only
 refine propext ⟨λ⟨n,v,σ',h,hk⟩=>⟨n,v,σ',?_,hk⟩,λ⟨n,v,σ',h,hk⟩=>⟨n,v,σ',by rw[h],hk⟩⟩
 split at h
 ·rename_i e;rw[e];exact h
 ·cases h
theorem aI {f:Nat}{args args':List V}{F:Fn}(h1:E.hspec f=none)(h2:E.spec f=none)(h3:E.fn f=some F)(h4:E.mode f=.fK)(h5:aW (aT Z E.ty true) args=some args') :
  aB E f args Z K=nN E F args' [] λv σ1=>match cG σ1 E.ty false v with
   |some v=>K v Z
   |none=>False:=by
 rw[propext tT]
 unfold aB gM
 rw[h1,h2,h3,h4]
 dsimp only
 rw[h5]
 dsimp only
 refine propext ⟨λ⟨n,v,σ',h,hk⟩=>?_,λ⟨n,v,σ',h,hk⟩=>?_⟩
 ·cases he:enter E (ev E n) F args' [] with
  |none=>rw[he]at h;cases h
  |some y=>
   obtain⟨u,σ1⟩:=y
   rw[he]at h
   dsimp only at h
   refine⟨n,u,σ1,he,?_⟩
   cases hs:cG σ1 E.ty false u with
   |none=>rw[hs]at h;cases h
   |some v1=>rw[hs]at h;cases h;exact hk
 ·cases hs:cG σ' E.ty false v with
  |none=>rw[hs]at hk;exact hk.elim
  |some v1=>
   rw[hs]at hk
   refine⟨n,v1,Z,?_,hk⟩
   rw[h]
   dsimp only
   rw[hs]
   rfl
theorem nN.mono {F:Fn}{args:List V}{K':V->Sg->Prop}(h:nN E F args Z K)(hk:∀v Z,K v Z->K' v Z):nN E F args Z K':=by
 rw[tT]at h ⊢
 obtain⟨n,v,σ',h,hk'⟩:=h
 exact⟨n,v,σ',h,hk _ _ hk'⟩
theorem aB.mono {f:Nat}{args:List V}{K':V->Sg->Prop}(h:aB E f args Z K)(hk:∀v Z,K v Z->K' v Z):aB E f args Z K':=by
 obtain⟨n,v,σ',h,hk'⟩:=h
 exact⟨n,v,σ',h,hk _ _ hk'⟩
def K4:List Oper->Bool
 | []=>true
 |o::l=>(match o.op with
  | .buildSlice ..=>false
  | .call { callee:=.builtin .append,.. }=>false
  |_=>true)&&K4 l
theorem MA {ev:zQ}{dr:Fz}{op:Op}{fr:Fr}(h:(match op with
  | .buildSlice ..=>false
  | .call { callee:=.builtin .append,.. }=>false
  |_=>true)=true):jF E ev dr op fr Z=jF E ev .no op fr Z:=by
 cases op with
 |buildSlice t len parts=>cases h
 |call cc=>
  obtain⟨callee,args,ats⟩:=cc
  cases callee with
  |builtin b=>cases b <;> first | rfl | cases h
  |_=>rfl
 |_=>rfl
theorem Bd {ev:zQ}{dr:Fz}{ops:Array Oper}:∀{l:List Oper}{fr:Fr}{Z:Sg},K4 l=true->gY E ev dr ops l fr Z=gY E ev .no ops l fr Z
 | [],_,_,_=>rfl
 |o::l,fr,Z,h=>by
  simp only[K4,aj]at h
  have e:bJ E ev dr ops o fr Z=bJ E ev .no ops o fr Z:=by
   unfold bJ
   rw[MA h.1]
  rw[gY,gY,e]
  cases bJ E ev .no ops o fr Z with
  |none=>rfl
  |some y=>exact Bd h.2
def aO (E:Env):Code->Bool
 | .region _ ops true=>(match cJ E (fT E ops) ops with
  |some []=>true
  |_=>false)&&(K4 ops.toList||(match fT E ops with | .no=>true | _=>false))
 |_=>false
def bB:Code->Code
 | .region id ops _=>.region id ops false
 |c=>c
theorem LX {c:Code}{fr:Fr}{Q:X->Fr->Sg->Prop}(h:aO E c=true):Wp E c fr Z Q=Wp E (bB c) fr Z Q:=by
 unfold aO at h
 split at h
 case h_2=>cases h
 rename_i id ops
 rw[aj]at h
 obtain⟨h1,h2⟩:=h
 show _=Wp E (.region id ops false) fr Z Q
 rw[Kk,ND]
 unfold QL tO bW
 cases hp:cJ E (fT E ops) ops with
 |none=>rw[hp]at h1;cases h1
 |some l=>
  rw[hp]at h1
  cases l with
  |cons d l=>cases h1
  |nil=>
   simp only
   cases hd:fT E ops with
   |no=>rfl
   |_=>
    rw[hd]at h2
    simp only[ou]at h2
    simp only[Bd h2]
def opsOf:Code->Array Oper
 | .region _ ops _=>ops
 |_=>#[]
def cutAt:List Nat->Code->Code
 | [],c=>c
 |0::p,.seq a _=>cutAt p a
 |1::p,.seq _ b=>cutAt p b
 |2::p,.block _ c=>cutAt p c
 |2::p,.loop c=>cutAt p c
 |0::p,.cond _ a _=>cutAt p a
 |1::p,.cond _ _ b=>cutAt p b
 |_,c=>c
end
end
end Go.Ax
end
