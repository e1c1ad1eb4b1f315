/- Part 14 of the proof. -/
import Derived.Test.YtmbikbgdbbcbmaaGreatDoorY
import Derived.Test.YtmbikbgdbbcbmaaGreatDoorZ13
import Derived.Sort.MapsRangeIn
import Derived.RangeFuncFrom
import Derived.RangeFuncGives
import Derived.Test.YtmbikbgdbbcbmaaGreatDoorZ3
import Derived.Shelf.SlIter.Collect
import Derived.Shelf.AbstractIn
import Derived.Shelf.SortM.SortNone
import Derived.Shelf.SlSortCmp.NoneTotal
import Derived.Ground.SlsfProg
import Derived.Ground.SlgmProg
import Derived.Test.YtmbikbgdbbcbmaaGreatDoorProg
import Derived.Test.YtmbikbgdbbcbmaaGreatDoorZ2
import Derived.Sort.OwnSorted
import Derived.Shelf.SortM.Plain
import Derived.Test.YtmbikbgdbbcbmaaGreatDoorZ4
import Derived.Test.YtmbikbgdbbcbmaaGreatDoorZ5
import Derived.Test.YtmbikbgdbbcbmaaGreatDoorZ6
import Derived.Test.YtmbikbgdbbcbmaaGreatDoorZ7
import Derived.Test.YtmbikbgdbbcbmaaGreatDoorZ8
import Derived.Test.YtmbikbgdbbcbmaaGreatDoorZ9
import Derived.Test.YtmbikbgdbbcbmaaGreatDoorZ10
import Derived.Test.YtmbikbgdbbcbmaaGreatDoorZ11
import Derived.Test.YtmbikbgdbbcbmaaGreatDoorZ12
set_option maxHeartbeats 8000000
set_option linter.unusedVariables false
open Nat (reduceEqDiff reduceLT reduceAdd reduceSub)
section
namespace Go.Ax
open Go Go.Proofs
section
section
variable {E:Env}
theorem reg0 {n:Nat}{fr:Fr}{Z:Sg}{Q:X->Fr->Sg->Prop}(hn:fr.n=119) (q:∀fr':Fr,fr'.n=119->(∀t,t<4->fr'.get t=fr.get t)->Q .normal fr' Z):eW E (n+1) (bk [0]) fr Z Q:=by
 simp only[bk,BV,aA,Tryz.f159,ag]
 simp only[dN,cR,dZ,bQ,aT,ofValue,bK,b9,eP,bB,iX,comp,bt]
 refine q _ ?_ ?_
 ·simp only[Fr.bA,hn]
 ·exact λt ht=>by simp only[Fr.aG];repeat (rw[ay (by omega)])
theorem reg1 (h196:E.ty 209=some { kd:=.map 9 3,size:=1,bytes:=8,zero:=.b_ })(h111:E.ty 107=some { kd:=.map 9 24,size:=1,bytes:=8,zero:=.b_ })(h44:E.ty 24=some { kd:=.sl 9,size:=1,bytes:=24,zero:=.aB })
  (h9:E.ty 9=some { kd:=.str,size:=1,bytes:=16,zero:=.str [] })(h3:E.ty 3=some { kd:=.int .i64,size:=1,bytes:=8,zero:=.int .i64 0 })(h4:E.ty 4=some { kd:=.bool,size:=1,bytes:=1,zero:=.bool false })
  {n:Nat}{fr:Fr}{f:List Nat}{Q:X->Fr->Sg->Prop}(hn:fr.n=119) (g1:fr.get 1=some (.str f)) (q:∀fr':Fr,fr'.n=119->fr'.get 5=some (.ref 1 0)->(∀t,t<4->fr'.get t=fr.get t)->Q .normal fr' [.map [(.str f,.int .i64 ((0:Nat):Int))],.cells 209 [.mp 0] true]):eW E (n+1) (bk [1,0]) fr [] Q:=by
 have hm:lA jS (.str f) (.int .i64 0) []=some [(.str f,.int .i64 ((0:Nat):Int))]:=rfl
 simp only[bk,BV,aA,Tryz.f159,ag]
 simp only[dN,cR,dZ,bQ,aT,ofValue,bK,b9,eP,bB,iX,comp,aS,dX,j_,sS,l_,pV,bt,Fr.aG,Fr.bA,hn,bz,cw,reduceEqDiff,reduceLT,cn,aq,h196,h9,storeAt,eB,cA h9,mapUpdate,fS,V.aW,di,j9,ai,oz,BEq.rfl,decide_true,aa,bf,V.cells,setCells,kz,cq,mz,fh,jk,ni,cz,ig,jm,ae,pc,g1,hm,dy]
 refine q _ ?_ ?_ ?_
 ·simp only[Fr.bA,hn]
 ·simp only[Fr.aG,Fr.bA,hn,reduceEqDiff,reduceLT,cn,b9,aq]
 ·exact λt ht=>by simp only[Fr.aG];repeat (rw[ay (by omega)])
theorem reg2 {n:Nat}{fr:Fr}{Z:Sg}{Q:X->Fr->Sg->Prop}(hn:fr.n=119) (q:∀fr':Fr,fr'.n=119->fr'.get 6=some (.bool true)->(∀t,t<6->fr'.get t=fr.get t)->Q .normal fr' Z):eW E (n+1) (bk [1,1,0,0]) fr Z Q:=by
 simp only[bk,BV,aA,Tryz.f159,ag]
 simp only[dN,cR,dZ,bQ,aT,ofValue,bK,b9,eP,bB,iX,comp,bt]
 refine q _ ?_ ?_ ?_
 ·simp only[Fr.bA,hn]
 ·simp only[Fr.aG,hn,reduceLT,cn,b9]
 ·exact λt ht=>by simp only[Fr.aG];repeat (rw[ay (by omega)])
theorem Yg (h196:E.ty 209=some { kd:=.map 9 3,size:=1,bytes:=8,zero:=.b_ })(h111:E.ty 107=some { kd:=.map 9 24,size:=1,bytes:=8,zero:=.b_ })(h44:E.ty 24=some { kd:=.sl 9,size:=1,bytes:=24,zero:=.aB })
  (h9:E.ty 9=some { kd:=.str,size:=1,bytes:=16,zero:=.str [] })(h3:E.ty 3=some { kd:=.int .i64,size:=1,bytes:=8,zero:=.int .i64 0 })(h4:E.ty 4=some { kd:=.bool,size:=1,bytes:=1,zero:=.bool false })
  {n:Nat}{fr:Fr}{Z:Sg}{Q:X->Fr->Sg->Prop}(hn:fr.n=119) (q:∀fr':Fr,fr'.n=119->fr'.get 15=some (.ref Z.length 0)->(∀t,t<15->fr'.get t=fr.get t)->Q .normal fr' (Z++[.cells 3 [.int .i64 (tJ none)] true])):eW E (n+1) (bk [1,1,1,0]) fr Z Q:=by
 have h1:(Z++[O.cells 3 [.int .i64 0] true])[Z.length]?=some (.cells 3 [.int .i64 0] true):=by simp
 have h2:∀x,(Z++[O.cells 3 [.int .i64 0] true]).set Z.length x=Z++[x]:=λx=>by simp
 simp only[bk,BV,aA,Tryz.f159,ag]
 simp only[dN,cR,dZ,bQ,aT,ofValue,bK,b9,eP,bB,iX,comp,bt,hn,sS,h3,V.cells,j_,Fr.aG,reduceLT,cn,b9,storeAt,h1,h2,aa,bf,BEq.rfl,ig,jm,V.aW,mg,cz,ae,decide_true,setCells,kz,cq,mz,pc,fh]
 refine q _ ?_ ?_ ?_
 ·simp only[Fr.bA,hn]
 ·simp only[Fr.aG,hn,reduceLT,cn,b9]
 ·exact λt ht=>by simp only[Fr.aG];repeat (rw[ay (by omega)])
theorem Yf (h196:E.ty 209=some { kd:=.map 9 3,size:=1,bytes:=8,zero:=.b_ })(h111:E.ty 107=some { kd:=.map 9 24,size:=1,bytes:=8,zero:=.b_ })(h44:E.ty 24=some { kd:=.sl 9,size:=1,bytes:=24,zero:=.aB })
  (h9:E.ty 9=some { kd:=.str,size:=1,bytes:=16,zero:=.str [] })(h3:E.ty 3=some { kd:=.int .i64,size:=1,bytes:=8,zero:=.int .i64 0 })(h4:E.ty 4=some { kd:=.bool,size:=1,bytes:=1,zero:=.bool false })
  {n:Nat}{fr:Fr}{Z:Sg}{g:Bool}{es:List (V × V)}(hbk:gO es) {f:List Nat}{Q:X->Fr->Sg->Prop}(hn:fr.n=119) (g0:fr.get 0=some (.imp g es)) (g1:fr.get 1=some (.str f))
  (q:∀fr':Fr,fr'.n=119->fr'.get 70=some (valOf es f)->fr'.get 71=some (.int .i64 ((cE es f).length:Int))->fr'.get 72=some (.int .i64 ((0:Nat):Int))->(∀t,t<17->fr'.get t=fr.get t)->Q .normal fr' Z):eW E (n+1) (bk [1,1,1,1,0,0]) fr Z Q:=by
 obtain⟨r,hr1,hr2⟩:=Dw (x:=f) hbk
 have hln:lenOf E Z 24 (valOf es f)=some (cE es f).length:=by
  rcases yO (x:=f) hbk with⟨h1,h2⟩ | ⟨g,full,h1⟩
  ·rw[h1,h2];simp only[lenOf,h44,bf]
  ·rw[h1];simp only[lenOf,h44,az]
 simp only[bk,BV,aA,Tryz.f159,ag]
 cases r with
 |none=>
  simp only[Option.getD_none]at hr2
  rw[<- hr2]at hln
  simp only[dN,cR,dZ,bQ,aT,fA,ofValue,bK,b9,eP,bB,iX,comp,aS,d_,eR,builtin,bt,Fr.aG,Fr.bA,hn,bz,cr,reduceEqDiff,reduceLT,cn,aq,h111,h44,h9,lookup,eB,entriesOf,cA h9,di,ai,gk,V.cells,setCells,g0,g1,hr1,hln]
  refine q _ ?_ ?_ ?_ ?_ ?_
  ·simp only[Fr.bA,hn]
  ·simp only[Fr.aG,Fr.bA,hn,reduceEqDiff,reduceLT,cn,b9,aq,hr2]
  ·simp only[Fr.aG,Fr.bA,hn,reduceEqDiff,reduceLT,cn,b9,aq]
  ·simp only[Fr.aG,Fr.bA,hn,reduceEqDiff,reduceLT,cn,b9,aq];rfl
  ·exact λt ht=>by simp only[Fr.aG];repeat (rw[ay (by omega)])
 |some v=>
  simp only[ag]at hr2
  rw[<- hr2]at hln
  simp only[dN,cR,dZ,bQ,aT,fA,ofValue,bK,b9,eP,bB,iX,comp,aS,d_,eR,builtin,bt,Fr.aG,Fr.bA,hn,bz,cr,reduceEqDiff,reduceLT,cn,aq,h111,h44,h9,lookup,eB,entriesOf,cA h9,di,ai,gk,V.cells,setCells,g0,g1,hr1,hln]
  refine q _ ?_ ?_ ?_ ?_ ?_
  ·simp only[Fr.bA,hn]
  ·simp only[Fr.aG,Fr.bA,hn,reduceEqDiff,reduceLT,cn,b9,aq,hr2]
  ·simp only[Fr.aG,Fr.bA,hn,reduceEqDiff,reduceLT,cn,b9,aq]
  ·simp only[Fr.aG,Fr.bA,hn,reduceEqDiff,reduceLT,cn,b9,aq];rfl
  ·exact λt ht=>by simp only[Fr.aG];repeat (rw[ay (by omega)])
theorem Ye (h196:E.ty 209=some { kd:=.map 9 3,size:=1,bytes:=8,zero:=.b_ })(h111:E.ty 107=some { kd:=.map 9 24,size:=1,bytes:=8,zero:=.b_ })(h44:E.ty 24=some { kd:=.sl 9,size:=1,bytes:=24,zero:=.aB })
  (h9:E.ty 9=some { kd:=.str,size:=1,bytes:=16,zero:=.str [] })(h3:E.ty 3=some { kd:=.int .i64,size:=1,bytes:=8,zero:=.int .i64 0 })(h4:E.ty 4=some { kd:=.bool,size:=1,bytes:=1,zero:=.bool false })
  {n:Nat}{fr:Fr}{Z:Sg}{B:Nat}{acc:Option Nat} (sB:Z[B]?=some (.cells 3 [.int .i64 (tJ acc)] true)) {Q:X->Fr->Sg->Prop}(hn:fr.n=119) (g15:fr.get 15=some (.ref B 0))
  (q0:acc=none->∀fr':Fr,fr'.get 4=some .aB->Q .ret fr' Z) (q1:∀b,acc=some b->∀fr':Fr,fr'.n=119->(∀t,t<94->fr'.get t=fr.get t)->Q .normal fr' Z):eW E (n+5) (bk [1,1,1,1,1,0]) fr Z Q:=by
 simp only[bk,BV,aA,Tryz.f159,ag]
 cases acc with
 |none=>
  have hc:decide (tJ none<0)=true:=by decide
  simp only[fH,FO,cW,fI,dN,cR,dZ,bQ,aT,ofValue,bK,b9,eP,bB,iX,comp,iJ,eZ,bt,Fr.aG,Fr.bA,hn,bz,reduceEqDiff,reduceLT,cn,aq,h3,loadAt,isAgg,bin,arith,ai,jA,g15,sB,hc]
  refine q0 rfl _ ?_
  simp only[Fr.aG,Fr.bA,hn,reduceEqDiff,reduceLT,cn,b9,aq]
 |some b=>
  have hc:decide (tJ (some b)<0)=false:=AI (by simp only[tJ];omega)
  simp only[fH,FO,cW,fI,dN,cR,dZ,bQ,aT,ofValue,bK,b9,eP,bB,iX,comp,iJ,eZ,bt,Fr.aG,Fr.bA,hn,bz,reduceEqDiff,reduceLT,cn,aq,h3,loadAt,isAgg,bin,arith,ai,jA,g15,sB,hc]
  refine q1 b rfl _ ?_ ?_
  ·simp only[Fr.bA,hn]
  ·exact λt ht=>by simp only[Fr.aG];repeat (rw[ay (by omega)])
theorem Yd (h196:E.ty 209=some { kd:=.map 9 3,size:=1,bytes:=8,zero:=.b_ })(h111:E.ty 107=some { kd:=.map 9 24,size:=1,bytes:=8,zero:=.b_ })(h44:E.ty 24=some { kd:=.sl 9,size:=1,bytes:=24,zero:=.aB })
  (h9:E.ty 9=some { kd:=.str,size:=1,bytes:=16,zero:=.str [] })(h3:E.ty 3=some { kd:=.int .i64,size:=1,bytes:=8,zero:=.int .i64 0 })(h4:E.ty 4=some { kd:=.bool,size:=1,bytes:=1,zero:=.bool false })
  {n:Nat}{fr:Fr}{Z:Sg}{f:List Nat}{Q:X->Fr->Sg->Prop}(hn:fr.n=119) (g1:fr.get 1=some (.str f)) (q:∀fr':Fr,fr'.n=119->fr'.get 20=some (.sl Z.length 0 1 none)->(∀t,t<20->fr'.get t=fr.get t)->Q .normal fr' (Z++[.cells 9 [.str f] true])):eW E (n+1) (bk [1,1,1,1,1,1,0]) fr Z Q:=by
 have hl:=LD h196 h111 h44 h9 h3 h4 (fr:=fr.put 96 (.str f)) (Z:=Z) (x:=96) (s:=f) (by simp only[aT,Fr.aG,hn,reduceLT,cn,b9])
 simp only[bk,BV,aA,Tryz.f159,ag]
 simp only[dN,cR,dZ,bQ,aT,b9,eP,bB,iX,comp,Fz.lits,bt,Fr.aG,Fr.bA,hn,reduceEqDiff,reduceLT,cn,aq,ai,g1,hl]
 refine q _ ?_ ?_ ?_
 ·simp only[Fr.bA,hn]
 ·simp only[Fr.aG,Fr.bA,hn,reduceEqDiff,reduceLT,cn,b9,aq]
 ·exact λt ht=>by simp only[Fr.aG];repeat (rw[ay (by omega)])
theorem Yc {n:Nat}{fr:Fr}{Z:Sg}{f:List Nat}{Q:X->Fr->Sg->Prop}(hn:fr.n=119) (g1:fr.get 1=some (.str f)) (q:∀fr':Fr,fr'.n=119->fr'.get 21=some (.str f)->(∀t,t<21->fr'.get t=fr.get t)->Q .normal fr' Z):eW E (n+1) (bk [1,1,1,1,1,1,1,0,0]) fr Z Q:=by
 simp only[bk,BV,aA,Tryz.f159,ag]
 simp only[dN,cR,dZ,bQ,aT,b9,eP,bB,iX,comp,bt,hn,g1,Fr.aG,reduceLT,cn]
 refine q _ ?_ ?_ ?_
 ·simp only[Fr.bA,hn]
 ·simp only[Fr.aG,Fr.bA,hn,reduceEqDiff,reduceLT,cn,b9,aq]
 ·exact λt ht=>by simp only[Fr.aG];repeat (rw[ay (by omega)])
theorem Yb {n:Nat}{fr:Fr}{Z:Sg}{v:V}{Q:X->Fr->Sg->Prop}(hn:fr.n=119) (g20:fr.get 20=some v) (q:∀fr':Fr,fr'.get 4=some v->Q .ret fr' Z):eW E (n+3) (bk [1,1,1,1,1,1,1,1]) fr Z Q:=by
 simp only[bk,BV,aA,Tryz.f159,ag]
 simp only[cW,FO,dN,cR,dZ,bQ,aT,b9,eP,bB,iX,comp,bt,hn,g20,Fr.aG,reduceLT,cn]
 refine q _ ?_
 simp only[Fr.aG,Fr.bA,hn,reduceEqDiff,reduceLT,cn,b9,aq]
theorem MZ (h196:E.ty 209=some { kd:=.map 9 3,size:=1,bytes:=8,zero:=.b_ })(h111:E.ty 107=some { kd:=.map 9 24,size:=1,bytes:=8,zero:=.b_ })(h44:E.ty 24=some { kd:=.sl 9,size:=1,bytes:=24,zero:=.aB })
  (h9:E.ty 9=some { kd:=.str,size:=1,bytes:=16,zero:=.str [] })(h3:E.ty 3=some { kd:=.int .i64,size:=1,bytes:=8,zero:=.int .i64 0 })(h4:E.ty 4=some { kd:=.bool,size:=1,bytes:=1,zero:=.bool false }) (f1:E.hspec 80=none) (f2:E.spec 80=none) (f3:E.fn 80=some (aA Tryz.f80)) (f4:E.mode 80=.fD) (f5:E.hspec 190=none) (f6:E.spec 190=none) (f7:E.fn 190=some (aA Tryz.f190)) (f8:E.mode 190=.shared)
  {es:List (V × V)}{f:List Nat}{g:Bool}(hbk:gO es)(hnd:(es.map ks).Nodup) {fe:List (V × V)}(hok:mU fe)(hfar:∀x,bR fe x=t_ es f x) {B:Nat}(hB:2<=B) {K:Nat}(hK:K<=4000000000000000000)(hl:∀x,(cE es x).length<=K) (N:Nat) :
  ∀(b:Nat) (at_:List Nat) (cs:List V) (ex:Bool) (C:Nat) (fr:Fr) (Z:Sg),b<=1000000->(b=0\/∃nx∈cE es at_,t_ es f nx=some b)->cs.length+b<=2000000->fr.n=119->fr.get 0=some (.imp g es)->fr.get 5=some (.ref 1 0)->fr.get 15=some (.ref B 0)->fr.get 20=some (.sl C 0 cs.length none)->fr.get 21=some (.str at_) ->
   Z[0]?=some (.map fe)->Z[1]?=some (.cells 209 [.mp 0] true)->Z[B]?=some (.cells 3 [.int .i64 (b:Int)] true)->Z[C]?=some (.cells 9 cs ex)->B≠C->2<=C ->
   eW E (N+K+b+71) (.loop (bk [1,1,1,1,1,1,1,0,1,2,2])) fr Z λx fr' σ'=>x=.exit 8/\fr'.n=119/\∃C',fr'.get 20=some (.sl C' 0 (cs++(uG es (dY es es.length [f]) at_ b).map V.str).length none)/\σ'[C']?=some (.cells 9 (cs++(uG es (dY es es.length [f]) at_ b).map V.str) (ex&&Nat.beq b 0)):=by
 intro b
 induction b with
 |zero=>
  intro at_ cs ex C fr Z hb hex hln hn g0 g5 g15 g20 g21 s0 s1 sB sC hBC hC
  show eW E ((N+K+70)+1) _ _ _ _
  rw[nP]
  refine CR h196 h111 h44 h9 h3 h4 f1 f2 f3 f4 f5 f6 f7 f8 hbk hok hn g0 g5 g15 g20 g21 s0 s1 sB sC hBC hB hC (by omega) hb hK (hl at_) N (λ_ fr' k1 k2=>?_) (λh=>absurd h (bg _))
  refine⟨rfl,k1,C,?_,?_⟩
  ·rw[k2 20 (by omega)]
   simpa [uG]using g20
  ·simpa [uG]using sC
 |succ b ih=>
  intro at_ cs ex C fr Z hb hex hln hn g0 g5 g15 g20 g21 s0 s1 sB sC hBC hC
  have hf0:N+K+(b+1)+71=((N+b+1)+K+70)+1:=by omega
  rw[hf0,nP]
  refine CR h196 h111 h44 h9 h3 h4 f1 f2 f3 f4 f5 f6 f7 f8 hbk hok hn g0 g5 g15 g20 g21 s0 s1 sB sC hBC hB hC (by omega) hb hK (hl at_) (N+b+1) (λh=>by omega) (λ_=>?_)
  have hex':∃nx∈cE es at_,gH nx (dY es es.length [f])=some (b+1):=hex.resolve_left (by omega)
  obtain⟨idx,a,h1,h2,h3',h4'⟩:=A5 _ _ _ hex'
  refine⟨idx,a,h1,by rw[hfar];exact h3',λj x hj hx=>by rw[hfar];exact h4' j x hj hx,?_⟩
  intro fr' σ' C' k1 k2 k3 k4 t0 t1 tB tC hBC' hC'
  have hway:uG es (dY es es.length [f]) at_ (b+1)=a::uG es (dY es es.length [f]) a b:=by simp only[uG,h2]
  have hex2:b=0\/∃nx∈cE es a,t_ es f nx=some b:=.inr (NB hbk hnd h3')
  have:=ih a (cs++[.str a]) false C' fr' σ' (by omega) hex2 (by simp;omega) k1 (by rw[k2 0 (by omega)];exact g0) (by rw[k2 5 (by omega)];exact g5) (by rw[k2 15 (by omega)];exact g15) k3 k4 t0 t1 (by simpa using tB) tC hBC' hC'
  rw[show (N+b+1)+K+70=N+K+b+71 by omega]
  refine eO _ this ?_
  rintro x fr2 σ2 ⟨rfl,b1,C2,b2,b3⟩
  refine⟨rfl,b1,C2,?_,?_⟩
  ·rw[hway];simpa using b2
  ·rw[hway]
   have e:(ex&&Nat.beq (b+1) 0)=false:=by cases ex <;> rfl
   rw[e]
   simpa using b3
theorem pC:∀(cs:List V),rows 1 cs.length cs=cs.map λc=>[c]
 | []=>rfl
 |c::cs=>by simp[rows,pC cs]
theorem iP (h196:E.ty 209=some { kd:=.map 9 3,size:=1,bytes:=8,zero:=.b_ })(h111:E.ty 107=some { kd:=.map 9 24,size:=1,bytes:=8,zero:=.b_ })(h44:E.ty 24=some { kd:=.sl 9,size:=1,bytes:=24,zero:=.aB })
  (h9:E.ty 9=some { kd:=.str,size:=1,bytes:=16,zero:=.str [] })(h3:E.ty 3=some { kd:=.int .i64,size:=1,bytes:=8,zero:=.int .i64 0 })(h4:E.ty 4=some { kd:=.bool,size:=1,bytes:=1,zero:=.bool false })
  {Z:Sg}{C:Nat}{l:List (List Nat)}{ex:Bool}(hC:Z[C]?=some (.cells 9 (l.map V.str) ex)):bW Z E.ty false (.sl C 0 (l.map V.str).length none)=some (.bT false (l.map λs=>[V.str s]) ex):=by
 have hs:bI Z E.ty false 12 (.sl C 0 (l.map V.str).length none)=some (.bT false (l.map λs=>[V.str s]) ex):=by
  rw[bI]
  simp only[hC,h9,cz,nf,ae,b9,eu,List.take_length]
  rw[wE]
  rotate_left
  ·intro x hx
   obtain⟨s,_,rfl⟩:=cg.1 hx
   simp[bI,bU]
  simp only[pC,ku,Nat.lt_add_one,decide_true,mg,BEq.rfl]
  rfl
 simp only[bW,aQ,aQ.one,eE,hs,bU,mh,Bool.or_true,b9]
theorem IU (h196:E.ty 209=some { kd:=.map 9 3,size:=1,bytes:=8,zero:=.b_ })(h111:E.ty 107=some { kd:=.map 9 24,size:=1,bytes:=8,zero:=.b_ })(h44:E.ty 24=some { kd:=.sl 9,size:=1,bytes:=24,zero:=.aB })
  (h9:E.ty 9=some { kd:=.str,size:=1,bytes:=16,zero:=.str [] })(h3:E.ty 3=some { kd:=.int .i64,size:=1,bytes:=8,zero:=.int .i64 0 })(h4:E.ty 4=some { kd:=.bool,size:=1,bytes:=1,zero:=.bool false }) (f1:E.hspec 80=none) (f2:E.spec 80=none) (f3:E.fn 80=some (aA Tryz.f80)) (f4:E.mode 80=.fD) (f5:E.hspec 190=none) (f6:E.spec 190=none) (f7:E.fn 190=some (aA Tryz.f190)) (f8:E.mode 190=.shared)
  {es:List (V × V)}{f:List Nat}{g:Bool}(hbk:gO es)(hnd:(es.map ks).Nodup)(hes:es.length<=1000000) {K:Nat}(hK:K<=1000000)(hKl:∀e∈es,(iT e.2).length<=K):∃n,B_ E n (aA Tryz.f159) [.imp g es,.str f] [] λv Z=>bW Z E.ty false v=some (oA es f):=by
 have hnl:∀x,(cE es x).length<=K:=by
  intro x
  clear hnd hes
  induction es with
  |nil=>simp[cE]
  |cons e es ih=>
   obtain⟨⟨q,hq⟩,_⟩:=hbk e (IN ..)
   obtain⟨k',v'⟩:=e
   simp only at hq
   subst hq
   simp only[cE]
   cases seq q x with
   |true=>exact hKl _ (IN ..)
   |false=>exact ih hbk.tail λe he=>hKl e (No _ he)
 obtain⟨fr0,hf0,hn0,hg0⟩:=Fr.Dg (n:=(aA Tryz.f159).ntmps) (vs:=[.imp g es,.str f]) (show 2<=119 by decide)
 have hn0:fr0.n=119:=hn0
 have i0:=hg0 0 _ rfl
 have i1:=hg0 1 _ rfl
 have e1:(aA Tryz.f159).code=.seq (bk [0]) (.seq (bk [1,0]) (.seq (.seq (bk [1,1,0,0]) (.block 0 (.loop (bk [1,1,0,1,2,2])))) (.seq (bk [1,1,1,0]) (.seq (.seq (bk [1,1,1,1,0,0]) (.block 6 (.loop (bk [1,1,1,1,0,1,2,2])))) (.seq (bk [1,1,1,1,1,0]) (.seq (bk [1,1,1,1,1,1,0]) (.seq (.seq (bk [1,1,1,1,1,1,1,0,0]) (.block 8 (.loop (bk [1,1,1,1,1,1,1,0,1,2,2])))) (bk [1,1,1,1,1,1,1,1])))))))):=rfl
 have hF0:GY es f [(.str f,.int .i64 ((0:Nat):Int))]:=by
  have hfar:∀x,bR [(.str f,.int .i64 ((0:Nat):Int))] x=if x=f then some 0 else none:=by
   intro x
   simp only[bR]
   cases h:seq f x with
   |true=>rw[kI]at h;simp[h]
   |false=>rw[kJ]at h;simp[h.symm]
  refine⟨λe he=>?_,by rw[hfar,b8 rfl],λx k hx=>?_,λx k hx=>?_,by simp,λk hk=>?_⟩
  ·simp only[dc]at he
   exact⟨f,0,he⟩
  ·rw[hfar]at hx
   split at hx
   ·rename_i e;injection hx with hx;subst hx e;exact .zero
   ·cases hx
  ·rw[hfar]at hx
   split at hx
   ·injection hx with hx;subst hx;simp
   ·cases hx
  ·simp only[bj,List.map_nil,dc]at hk
   subst hk
   exact IN ..
 obtain⟨m,hm⟩:∃m,MX es f [(.str f,.int .i64 ((0:Nat):Int))]<m:=⟨_,jy _⟩
 obtain⟨S,hS⟩:∃S,S=K+es.length+m+200:=⟨_,rfl⟩
 refine⟨S+30,fr0,hf0,?_⟩
 rw[e1]
 show eW E ((S+29)+1) _ _ _ _
 rw[cW]
 refine reg0 (n:=S+28) hn0 (λfr1 a1 a2=>?_)
 show eW E ((S+28)+1) _ _ _ _
 rw[cW]
 refine reg1 h196 h111 h44 h9 h3 h4 (n:=S+27) a1 (by rw[a2 1 (by omega)];exact i1) (λfr2 b1 b2 b3=>?_)
 show eW E ((S+27)+1) _ _ _ _
 rw[cW]
 show eW E ((S+26)+1) _ _ _ _
 rw[cW]
 refine reg2 (n:=S+25) b1 (λfr3 c1 c2 c3=>?_)
 show eW E ((S+25)+1) _ _ _ _
 rw[dF]
 obtain⟨N1,hN1⟩:∃N1,S+25=N1+K+es.length+m+90:=⟨135,by omega⟩
 rw[hN1]
 refine eO _ (JV h196 h111 h44 h9 h3 h4 hes hbk hnd (by omega:K<=4000000000000000000) hKl N1 m [] fr3 _ true (λ_=>hm) (λh=>by cases h) hF0 c1 (by rw[c3 0 (by omega),b3 0 (by omega),a2 0 (by omega)];exact i0) c2 (by rw[c3 5 (by omega)];exact b2)) ?_
 rintro x fr4 σ4 ⟨rfl,fe,its,hF,hC,rfl,d1,d2⟩
 simp only[b9]
 have hdist:∀x,bR fe x=t_ es f x:=λx=>(hF.dist hbk hnd (λy nx hy=>by
  obtain⟨v,h1,h2⟩:=CS hbk hy
  exact hC _ h1 y rfl nx h2) x).symm
 show eW E ((S+26)+1) _ _ _ _
 rw[cW]
 have j0:fr4.get 0=some (.imp g es):=by rw[d2 0 (by omega),c3 0 (by omega),b3 0 (by omega),a2 0 (by omega)];exact i0
 have j1:fr4.get 1=some (.str f):=by rw[d2 1 (by omega),c3 1 (by omega),b3 1 (by omega),a2 1 (by omega)];exact i1
 have j5:fr4.get 5=some (.ref 1 0):=by rw[d2 5 (by omega),c3 5 (by omega)];exact b2
 refine Yg h196 h111 h44 h9 h3 h4 (n:=S+25) d1 (λfr5 p1 p2 p3=>?_)
 show eW E ((S+25)+1) _ _ _ _
 rw[cW]
 show eW E ((S+24)+1) _ _ _ _
 rw[cW]
 refine Yf h196 h111 h44 h9 h3 h4 (n:=S+23) hbk p1 (by rw[p3 0 (by omega)];exact j0) (by rw[p3 1 (by omega)];exact j1) (λfr6 q1 q2 q3 q4 q5=>?_)
 show eW E ((S+23)+1) _ _ _ _
 rw[dF]
 have hnlf:=hnl f
 obtain⟨N2,hN2⟩:∃N2,S+23=N2+(cE es f).length+21:=⟨S+2-(cE es f).length,by omega⟩
 rw[hN2]
 refine eO _ (NQ h196 h111 h44 h9 h3 h4 (yO (x:=f) hbk) (B:=its.length+2) (by omega) hF.ok (by omega) N2 (cE es f).length 0 fr6 _ none (by omega) rfl q1 q2 q3 q4 (by rw[q5 5 (by omega),p3 5 (by omega)];exact j5) (by rw[q5 15 (by omega)];exact p2) rfl rfl (by simp)) ?_
 rintro x fr7 σ7 ⟨rfl,r1,r2,s0,s1,sB⟩
 simp only[b9]
 show eW E ((S+24)+1) _ _ _ _
 rw[cW]
 have hbest:(cE es f).foldl (eT (bR fe)) none=iU (dY es es.length [f]) (cE es f):=by
  have:=Fq (dY es es.length [f]) (cE es f) none
  rw[show (bR fe)=λx=>gH x (dY es es.length [f]) from funext hdist,this]
  rfl
 rw[hbest]at sB
 have k0:fr7.get 0=some (.imp g es):=by rw[r2 0 (by omega),q5 0 (by omega),p3 0 (by omega)];exact j0
 have k1:fr7.get 1=some (.str f):=by rw[r2 1 (by omega),q5 1 (by omega),p3 1 (by omega)];exact j1
 have k5:fr7.get 5=some (.ref 1 0):=by rw[r2 5 (by omega),q5 5 (by omega),p3 5 (by omega)];exact j5
 have k15:fr7.get 15=some (.ref (its.length+2) 0):=by rw[r2 15 (by omega),q5 15 (by omega)];exact p2
 show eW E ((S+19)+5) _ _ _ _
 refine Ye h196 h111 h44 h9 h3 h4 sB r1 k15 (λhnone fr8 h8=>?_) (λb hsome fr8 u1 u2=>?_)
 ·refine⟨.inr rfl,[.aB],by simp only[aA,Tryz.f159,results,h8],?_⟩
  simp only[oA,hnone]
  simp[bW,aQ,aQ.one,eE,bI,bU]
 ·show eW E ((S+23)+1) _ _ _ _
  rw[cW]
  refine Yd h196 h111 h44 h9 h3 h4 (n:=S+22) u1 (by rw[u2 1 (by omega)];exact k1) (λfr9 v1 v2 v3=>?_)
  show eW E ((S+22)+1) _ _ _ _
  rw[cW]
  show eW E ((S+21)+1) _ _ _ _
  rw[cW]
  refine Yc (n:=S+20) v1 (by rw[v3 1 (by omega),u2 1 (by omega)];exact k1) (λfra w1 w2 w3=>?_)
  show eW E ((S+20)+1) _ _ _ _
  rw[dF]
  rw[hsome]at sB
  obtain⟨nb,nb1,nb2⟩:=Aa _ _ _ hsome
  have hbl:b<=es.length:=((lJ hbk hnd).1 (show t_ es f nb=some b from nb2)).1
  obtain⟨N3,hN3⟩:∃N3,S+20=N3+K+b+71:=⟨S+20-K-b-71,by omega⟩
  rw[hN3]
  have hBl:=(AS.1 sB).1
  have left:∀j o,σ7[j]?=some o->(σ7++[O.cells 9 [.str f] true])[j]?=some o:=λj o ho=>by
   rw[bq (AS.1 ho).1];exact ho
  refine eO _ (MZ h196 h111 h44 h9 h3 h4 f1 f2 f3 f4 f5 f6 f7 f8 hbk hnd hF.ok hdist (B:=its.length+2) (by omega) (by omega:K<=4000000000000000000) hnl N3 b f [.str f] true σ7.length fra _ (by omega) (.inr ⟨nb,nb1,nb2⟩) (by simp;omega) w1 (by rw[w3 0 (by omega),v3 0 (by omega),u2 0 (by omega)];exact k0) (by rw[w3 5 (by omega),v3 5 (by omega),u2 5 (by omega)];exact k5) (by rw[w3 15 (by omega),v3 15 (by omega),u2 15 (by omega)];exact k15) (by rw[w3 20 (by omega)];exact v2) w2 (left _ _ s0) (left _ _ s1) (left _ _ sB) (by simp) (by omega) (by omega)) ?_
  rintro x frb σb ⟨rfl,y1,C',y2,y3⟩
  simp only[b9]
  show eW E ((S+19)+3) _ _ _ _
  refine Yb y1 y2 (λfrc z1=>?_)
  have e2:[V.str f]++(uG es (dY es es.length [f]) f b).map V.str=(f::uG es (dY es es.length [f]) f b).map V.str:=rfl
  rw[e2]at y3 z1
  refine⟨.inr rfl,[_],by simp only[aA,Tryz.f159,results,z1];rfl,?_⟩
  have:=iP h196 h111 h44 h9 h3 h4 y3
  simp only[oA,hsome]
  simpa using this
theorem Hi (he:cQ Tryz.prog E)(hfs:kT Tryz.prog E)(hmix:Tryz.prog.follows .mixedOrders=true)(hF:E.fn 159=some (aA Tryz.f159))(h196:E.ty 209=some { kd:=.map 9 3,size:=1,bytes:=8,zero:=.b_ })(h111:E.ty 107=some { kd:=.map 9 24,size:=1,bytes:=8,zero:=.b_ })(h44:E.ty 24=some { kd:=.sl 9,size:=1,bytes:=24,zero:=.aB })
  (h9:E.ty 9=some { kd:=.str,size:=1,bytes:=16,zero:=.str [] })(h3:E.ty 3=some { kd:=.int .i64,size:=1,bytes:=8,zero:=.int .i64 0 })(h4:E.ty 4=some { kd:=.bool,size:=1,bytes:=1,zero:=.bool false }) (f1:E.hspec 80=none) (f2:E.spec 80=none) (f3:E.fn 80=some (aA Tryz.f80)) (f4:E.mode 80=.fD) (f5:E.hspec 190=none) (f6:E.spec 190=none) (f7:E.fn 190=some (aA Tryz.f190)) (f8:E.mode 190=.shared):fL Tryz.prog E 159 nR:=by
 refine FX he hfs hmix hF ?_
 intro vs v h
 unfold nR at h
 split at h
 case h_2=>cases h
 rename_i g es f
 split at h
 case h_2=>cases h
 rename_i h1 h2 hlen
 injection h with h;subst h
 rw[Nat.ble_eq]at hlen
 have hbk:=yI h1
 exact IU h196 h111 h44 h9 h3 h4 f1 f2 f3 f4 f5 f6 f7 f8 hbk (D7 h2 λe he=>(hbk e he).1) hlen (ae 1000000) (Ku h1)
end
end
end Go.Ax
end
section
namespace Go.Ax
open Go Go.RowKit
section
open Go.ChangeMaps (setBlock)
structure Rg (W:World) (b r:Nat) (left:List Value):Prop where
 ex:∃(en:Array MapEntry) (cl:Nat) (seen:Array Nat),W.heap[r]?=some (.mapIter (some b) cl seen cl)/\W.heap[b]?=some (.map en cl)/\MapKept.Stamped en cl/\left.Perm ((en.toList.filter λe=>!seen.contains e.born).map (·.key))
theorem Rg.kept {W W':World}{b r:Nat}{left:List Value}(h:Rg W b r left)(hk:KeepsWalks W W'):Rg W' b r left:=by
 obtain⟨en,cl,seen,h1,h2,h3,h4⟩:=h.ex
 exact⟨en,cl,seen,hk.same r _ h1 rfl,hk.same b _ h2 rfl,h3,h4⟩
def CL (W:World) (b r:Nat):Nat:=match W.heap[r]?,W.heap[b]? with
 |some (.mapIter _ _ seen _),some (.map en _)=>(en.toList.filter λe=>!seen.contains e.born).length
 |_,_=>0
theorem Rg.left_eq {W:World}{b r:Nat}{left:List Value}(h:Rg W b r left):CL W b r=left.length:=by
 obtain⟨en,cl,seen,h1,h2,_,h4⟩:=h.ex
 have:=h4.length_eq
 simp only[CL,h1,h2,this,az]
theorem Rg.walk {W:World}{b r:Nat}{left:List Value}(h:Rg W b r left):∃o:Obj,W.heap[r]?=some o/\o.isWalk=true:=by
 obtain⟨en,cl,seen,h1,_⟩:=h.ex
 exact⟨_,h1,rfl⟩
section
variable {F:Fence}{n:Nat}{P:Program} (w:World) {ops:Array Oper}{rest:List Oper}{o:Oper}{a:Act}{Q:Exit->Act->World->Prop}
theorem lV (hg:o.guard=none) (m:Operand) (t:TypeId)(hop:o.op=Op.range t m) (k e:TypeId)(ht:P.underlying t=some (.map k e)) (b:Nat) (en:Array MapEntry) (cl:Nat)
  (hm:a.eval m=.map (some b))(hb:w.heap[b]?=some (.map en cl))(hst:MapKept.Stamped en cl)
  (hK:∀w',Rg w' b w.heap.size (en.toList.map (·.key))->w.grownBy w' none->w'.heap.size=w.heap.size+1->wpListIn F n P ops Q rest (a.put o.dst (.pointer (some ⟨w.heap.size,0,none⟩))) w') :
  wpListIn F n P ops Q (o::rest) a w:=by
 refine wpListIn_plain hg λK' hK'=>?_
 have hr:(Instr.range t (.map (some b))).run P w=.ok (.pointer (some ⟨w.heap.size,0,none⟩)) (w.alloc (.mapIter (some b) cl #[] cl)):=by
  simp only[Instr.range,Sem.run_bind,run_underlying ht,getObj,Sem.run,hb,Result.andThen]
  rfl
 have hblt:=(bh.1 hb).1
 unfold Oper.wpIn
 refine⟨?_,?_⟩
 ·simp[Oper.about,hop]
 ·rw[Oper.semAt_plain F _ _ (by rw[hop];intro c hc';cases hc')]
  simp only[execOp,hop,hm,hr,Result.andThen,Sem.run_bind,Sem.run_pure]
  refine hK' _ _ (hK _ ⟨en,cl,#[],World.alloc_heap_new w _,(Below.heap_alloc w _ b hblt).trans hb,hst,?_⟩ (World.grownBy_alloc w _ none) (by simp))
  rw[oe.2 (λe _=>by simp)]
theorem mV (hg:o.guard=none) (it:Operand)(hop:o.op=Op.next it false) (b r:Nat) (left:List Value)
  (hit:a.eval it=.pointer (some ⟨r,0,none⟩))(h:Rg w b r left)
  (hDone:left=[]->wpListIn F n P ops Q rest (a.put o.dst (.tuple #[.bool false])) w)
  (hMore:∀(x v:Value) (w':World) (left':List Value),(x::left').Perm left->Rg w' b r left'->w.grownBy w' (some r)->w'.heap.size=w.heap.size ->
   (Instr.entry (.pointer (some ⟨r,0,none⟩))).run P w'=.ok (.tuple #[x,v]) w'->wpListIn F n P ops Q rest (a.put o.dst (.tuple #[.bool true,x,v])) w') :
  wpListIn F n P ops Q (o::rest) a w:=by
 refine wpListIn_plain hg λK' hK'=>?_
 unfold Oper.wpIn
 refine⟨by simp[Oper.about,hop],?_⟩
 rw[Oper.semAt_plain F _ _ (by rw[hop];intro c hc';cases hc')]
 obtain⟨en,cl,seen,h1,h2,h3,h4⟩:=h.ex
 rcases run_next_at (P:=P) w o.type r b cl cl seen en cl h1 h2 h3.1 (ae _) with⟨e0,r2⟩ | ⟨q,r1,w1,r2,r3⟩
 ·simp only[execOp,hop,hit,r2,Result.andThen,Sem.run_bind,Sem.run_pure]
  refine hK' _ _ (hDone ?_)
  have:(en.toList.filter λe=>!seen.contains e.born)=[]:=by
   have:=Array.eq_empty_of_size_eq_zero e0
   simpa [leftOf]using au Array.toList this
  rw[this]at h4
  exact List.perm_nil.1 h4
 ·simp only[execOp,hop,hit,r3,Result.andThen,Sem.run_bind,Sem.run_pure]
  have hw1:w1.heap=w.heap:=by rcases r2 with rfl | rfl <;> rfl
  have hrlt:=(bh.1 h1).1
  have hne:b≠r:=by intro e;subst e;rw[h1]at h2;cases h2
  have hqen:q∈en.toList/\(!seen.contains q.born)=true:=by
   simpa [leftOf]using r1
  have hr':(setBlock w1 r (.mapIter (some b) cl (seen.push q.born) cl)).heap[r]?=some (.mapIter (some b) cl (seen.push q.born) cl):=by
   show (w1.heap.setIfInBounds r _)[r]?=_
   rw[hw1]
   simp[hrlt]
  have hb':(setBlock w1 r (.mapIter (some b) cl (seen.push q.born) cl)).heap[b]?=some (.map en cl):=by
   show (w1.heap.setIfInBounds r _)[b]?=_
   rw[hw1,Array.getElem?_setIfInBounds_ne (jo hne)]
   exact h2
  have hf:(en.toList.filter λe=>!(seen.push q.born).contains e.born)=(en.toList.filter λe=>!seen.contains e.born).filter λe=>!(e.born==q.born):=by
   rw[List.filter_filter]
   refine List.filter_congr λe _=>?_
   simp only[Array.contains_push,Bool.not_or]
   rw[Bool.and_comm]
  obtain⟨la,lz,hl⟩:=List.append_of_mem (lu.2 hqen:q∈en.toList.filter λe=>!seen.contains e.born)
  have hself:(la++q::lz).filter (λe:MapEntry=>!(e.born==q.born))=la++lz:=by
   have hnd2:((la++q::lz).map (·.born)).Nodup:=by rw[<- hl];exact h3.2.1.sublist (List.filter_sublist.map _)
   rw[gp,bj,l6]at hnd2
   obtain⟨n1,n2,n3⟩:=hnd2
   rw[dm]at n2
   rw[List.filter_append,List.filter_cons]
   have q0:(!(q.born==q.born))=false:=by simp
   rw[q0,ay (by simp)]
   congr 1
   ·rw[oe]
    intro e he
    have:e.born≠q.born:=λh=>n3 _ (List.mem_map_of_mem he) _ (IN ..) h
    simp[this]
   ·rw[oe]
    intro e he
    have:e.born≠q.born:=λh=>n2.1 (by rw[<- h];exact List.mem_map_of_mem he)
    simp[this]
  refine hK' _ _ (hMore q.key q.val _ ((la++lz).map (·.key)) ?_ ⟨en,cl,seen.push q.born,hr',hb',h3,by rw[hf,hl,hself]⟩ ?_ ?_ (run_entry_at _ r b cl seen en cl q hr' hb' hqen.1 h3.2.1))
  ·refine List.Perm.trans ?_ h4.symm
   rw[hl]
   simp only[gp,bj]
   exact jl.symm
  ·refine⟨?_,?_,?_,?_,λk hk hne=>?_⟩
   ·rcases r2 with rfl | rfl <;> rfl
   ·rcases r2 with rfl | rfl <;> rfl
   ·rcases r2 with rfl | rfl <;> rfl
   ·show w.heap.size<=(w1.heap.setIfInBounds r _).size
    rw[hw1];simp
   ·show (w1.heap.setIfInBounds r _)[k]?=_
    rw[hw1,Array.getElem?_setIfInBounds_ne]
    intro e;exact hne (by rw[e])
  ·show (w1.heap.setIfInBounds r _).size=_
   rw[hw1];simp
end
end
end Go.Ax
end
section
namespace Go.AxC
open Go Go.Proofs Go.Ax Go.RowKit Go.Maps Go.Sort Go.Shelf
def qY (x:Bool × ByteArray):Value:=.agg #[.bool x.1,.string x.2]
def encS (x:ByteArray):Value:=.string x
def fC (x:Bool × ByteArray):List Value:=[.bool x.1,.string x.2]
def pX (x:ByteArray):List Value:=[.string x]
set_option maxRecDepth 100000 in
theorem H_ (F:Fence) (n:Nat)(hF:F.fn 154)(hro:F.round=none)(hn:1<=n) (Bm b:Nat) (en:Array MapEntry) (cl:Nat) (w:World)(hBm:Bm<w.heap.size)
  (hm:w.cell? ⟨Bm,0,none⟩=some (.map (some b)))(hb:w.heap[b]?=some (.map en cl))(hst:MapKept.Stamped en cl)(hk:∀x∈en.toList.map (·.key),∃y,x=qY y) :
  SeqStopsK F n Tryz.prog 154 #[.pointer (some ⟨Bm,0,none⟩)] (λx=>#[qY x]) KeepsWalks (λxs=>(xs.map qY).Perm (en.toList.map (·.key))) (λ_=>True) en.size w:=by
 intro l J Jx W hW hJ hJx hY h0
 replace hm:W.cell? ⟨Bm,0,none⟩=some (.map (some b)):=(hW.cell (p:=⟨Bm,0,none⟩) hBm).trans hm
 replace hb:W.heap[b]?=some (.map en cl):=(hW.block b (bh.1 hb).1).trans hb
 refine callsIn_of_wp Tryz.func154 rfl hF ?_ hro
 simp only[Tryz.ntmps154,l8,aa,bf,reduceAdd,reduceSub,jz,k8,mm,l9,cq,dy]
 gi_wp2_with (first
  |(gi_at_range;refine lV _ rfl _ _ rfl _ _ Tryz.underlying88 b en cl rfl hb hst ?_;intro w0 hrg0 hg0 hs0)
  |gi_in)
 gi_loopw [] (λwr=>∃(left:List Value) (ss:List (Bool × ByteArray)),Rg wr b W.heap.size left/\(ss.map qY++left).Perm (en.toList.map (·.key))/\J ss wr)
  (λwr=>CL wr b W.heap.size)
 case atStart=>
  exact⟨_,[],hrg0,by simp,hJ [] W w0 none h0 hg0 (λr e=>by cases e)⟩
 case round=>
  obtain⟨left,ss,hrg,hp,hJs⟩:=hrel
  gi_wp2_with (first
   |(gi_at_next;refine mV _ rfl _ rfl b W.heap.size left rfl hrg ?_ ?_)
   |gi_in)
  ·intro hl0
   gi_wp2
   go_end0
   refine⟨⟨_,rfl⟩,.inl ⟨ss,?_,hJs⟩⟩
   rw[hl0]at hp
   simpa using hp
  ·intro x v w2 left2 hpl hrg2 hg2 hs2 hen
   have hx:x∈en.toList.map (·.key):=hp.mem_iff.1 (jr _ (hpl.mem_iff.1 (IN ..)))
   obtain⟨y,rfl⟩:=hk x hx
   have hJ2:J ss w2:=hJ ss wr w2 (some W.heap.size) hJs hg2 (λr e=>by cases e;exact⟨ae _,hrg.walk⟩)
   have hp2:((ss++[y]).map qY++left2).Perm (en.toList.map (·.key)):=by
    refine List.Perm.trans ?_ hp
    rw[gp,cm]
    exact pg _ hpl
   have hlen:ss.length<en.size:=by
    have:=hp2.length_eq
    simp at this
    omega
   obtain⟨q1,q2⟩:=y
   have hJ3:J ss (w2.alloc (.cells #[.bool q1,.string q2] 51)):=hJ ss w2 _ none hJ2 (World.grownBy_alloc w2 _ none) (λr e=>by cases e)
   have hrg3:Rg (w2.alloc (.cells #[.bool q1,.string q2] 51)) b W.heap.size left2:=hrg2.kept (KeepsWalks.alloc _ _)
   obtain⟨fn,tmps,assign,body,hy,hR⟩:=hY ss (q1,q2) _ hJ3 hlen
   have hll:=hpl.length_eq
   simp only[qY]at hen hy
   simp only[qY]
   clear hs2
   gi_wp2
   refine hR.mono ?_
   rintro e W3 (⟨rfl,hJ4,hk3⟩ | ⟨rfl,hJx3⟩)
   ·gi_wp2
    have hrg4:=hrg3.kept hk3
    go_roundw
    case rel=>exact⟨left2,ss++[(q1,q2)],hrg4,hp2,hJ4⟩
    case measure=>rw[hrg4.left_eq,hrg.left_eq];simp at hll;omega
   ·gi_wp2
    refine bodyPost_ret (results_none rfl _ _ _) rfl ?_
    exact⟨⟨_,rfl⟩,.inr ⟨ss++[(q1,q2)],trivial,hJx3⟩⟩
set_option maxRecDepth 100000 in
theorem H9 (F:Fence) (n:Nat)(hF:F.fn 131)(hro:F.round=none)(hn:1<=n) (Bm b:Nat) (en:Array MapEntry) (cl:Nat) (w:World)(hBm:Bm<w.heap.size)
  (hm:w.cell? ⟨Bm,0,none⟩=some (.map (some b)))(hb:w.heap[b]?=some (.map en cl))(hst:MapKept.Stamped en cl)(hk:∀x∈en.toList.map (·.key),∃y,x=encS y) :
  SeqStopsK F n Tryz.prog 131 #[.pointer (some ⟨Bm,0,none⟩)] (λx=>#[encS x]) KeepsWalks (λxs=>(xs.map encS).Perm (en.toList.map (·.key))) (λ_=>True) en.size w:=by
 intro l J Jx W hW hJ hJx hY h0
 replace hm:W.cell? ⟨Bm,0,none⟩=some (.map (some b)):=(hW.cell (p:=⟨Bm,0,none⟩) hBm).trans hm
 replace hb:W.heap[b]?=some (.map en cl):=(hW.block b (bh.1 hb).1).trans hb
 refine callsIn_of_wp Tryz.func131 rfl hF ?_ hro
 simp only[Tryz.ntmps131,l8,aa,bf,reduceAdd,reduceSub,jz,k8,mm,l9,cq,dy]
 gi_wp2_with (first
  |(gi_at_range;refine lV _ rfl _ _ rfl _ _ Tryz.underlying109 b en cl rfl hb hst ?_;intro w0 hrg0 hg0 hs0)
  |gi_in)
 gi_loopw [] (λwr=>∃(left:List Value) (ss:List (ByteArray)),Rg wr b W.heap.size left/\(ss.map encS++left).Perm (en.toList.map (·.key))/\J ss wr)
  (λwr=>CL wr b W.heap.size)
 case atStart=>
  exact⟨_,[],hrg0,by simp,hJ [] W w0 none h0 hg0 (λr e=>by cases e)⟩
 case round=>
  obtain⟨left,ss,hrg,hp,hJs⟩:=hrel
  gi_wp2_with (first
   |(gi_at_next;refine mV _ rfl _ rfl b W.heap.size left rfl hrg ?_ ?_)
   |gi_in)
  ·intro hl0
   gi_wp2
   go_end0
   refine⟨⟨_,rfl⟩,.inl ⟨ss,?_,hJs⟩⟩
   rw[hl0]at hp
   simpa using hp
  ·intro x v w2 left2 hpl hrg2 hg2 hs2 hen
   have hx:x∈en.toList.map (·.key):=hp.mem_iff.1 (jr _ (hpl.mem_iff.1 (IN ..)))
   obtain⟨y,rfl⟩:=hk x hx
   have hJ2:J ss w2:=hJ ss wr w2 (some W.heap.size) hJs hg2 (λr e=>by cases e;exact⟨ae _,hrg.walk⟩)
   have hp2:((ss++[y]).map encS++left2).Perm (en.toList.map (·.key)):=by
    refine List.Perm.trans ?_ hp
    rw[gp,cm]
    exact pg _ hpl
   have hlen:ss.length<en.size:=by
    have:=hp2.length_eq
    simp at this
    omega
   obtain⟨q1,hq1⟩:∃q1,q1=y:=⟨_,rfl⟩
   subst hq1
   have hJ3:=hJ2
   have hrg3:=hrg2
   obtain⟨fn,tmps,assign,body,hy,hR⟩:=hY ss q1 _ hJ3 hlen
   have hll:=hpl.length_eq
   simp only[encS]at hen hy
   simp only[encS]
   clear hs2
   gi_wp2
   refine hR.mono ?_
   rintro e W3 (⟨rfl,hJ4,hk3⟩ | ⟨rfl,hJx3⟩)
   ·gi_wp2
    have hrg4:=hrg3.kept hk3
    go_roundw
    case rel=>exact⟨left2,ss++[q1],hrg4,hp2,hJ4⟩
    case measure=>rw[hrg4.left_eq,hrg.left_eq];simp at hll;omega
   ·gi_wp2
    refine bodyPost_ret (results_none rfl _ _ _) rfl ?_
    exact⟨⟨_,rfl⟩,.inr ⟨ss++[q1],trivial,hJx3⟩⟩
set_option maxRecDepth 100000 in
theorem H8 (F:Fence) (n:Nat)(hF:F.fn 327)(hro:F.round=none)(hn:1<=n) (Bm b:Nat) (en:Array MapEntry) (cl:Nat) (w:World)(hBm:Bm<w.heap.size)
  (hm:w.cell? ⟨Bm,0,none⟩=some (.map (some b)))(hb:w.heap[b]?=some (.map en cl))(hst:MapKept.Stamped en cl)(hk:∀x∈en.toList.map (·.key),∃y,x=encS y) :
  SeqStopsK F n Tryz.prog 327 #[.pointer (some ⟨Bm,0,none⟩)] (λx=>#[encS x]) KeepsWalks (λxs=>(xs.map encS).Perm (en.toList.map (·.key))) (λ_=>True) en.size w:=by
 intro l J Jx W hW hJ hJx hY h0
 replace hm:W.cell? ⟨Bm,0,none⟩=some (.map (some b)):=(hW.cell (p:=⟨Bm,0,none⟩) hBm).trans hm
 replace hb:W.heap[b]?=some (.map en cl):=(hW.block b (bh.1 hb).1).trans hb
 refine callsIn_of_wp Tryz.func327 rfl hF ?_ hro
 simp only[Tryz.ntmps327,l8,aa,bf,reduceAdd,reduceSub,jz,k8,mm,l9,cq,dy]
 gi_wp2_with (first
  |(gi_at_range;refine lV _ rfl _ _ rfl _ _ Tryz.underlying97 b en cl rfl hb hst ?_;intro w0 hrg0 hg0 hs0)
  |gi_in)
 gi_loopw [] (λwr=>∃(left:List Value) (ss:List (ByteArray)),Rg wr b W.heap.size left/\(ss.map encS++left).Perm (en.toList.map (·.key))/\J ss wr)
  (λwr=>CL wr b W.heap.size)
 case atStart=>
  exact⟨_,[],hrg0,by simp,hJ [] W w0 none h0 hg0 (λr e=>by cases e)⟩
 case round=>
  obtain⟨left,ss,hrg,hp,hJs⟩:=hrel
  gi_wp2_with (first
   |(gi_at_next;refine mV _ rfl _ rfl b W.heap.size left rfl hrg ?_ ?_)
   |gi_in)
  ·intro hl0
   gi_wp2
   go_end0
   refine⟨⟨_,rfl⟩,.inl ⟨ss,?_,hJs⟩⟩
   rw[hl0]at hp
   simpa using hp
  ·intro x v w2 left2 hpl hrg2 hg2 hs2 hen
   have hx:x∈en.toList.map (·.key):=hp.mem_iff.1 (jr _ (hpl.mem_iff.1 (IN ..)))
   obtain⟨y,rfl⟩:=hk x hx
   have hJ2:J ss w2:=hJ ss wr w2 (some W.heap.size) hJs hg2 (λr e=>by cases e;exact⟨ae _,hrg.walk⟩)
   have hp2:((ss++[y]).map encS++left2).Perm (en.toList.map (·.key)):=by
    refine List.Perm.trans ?_ hp
    rw[gp,cm]
    exact pg _ hpl
   have hlen:ss.length<en.size:=by
    have:=hp2.length_eq
    simp at this
    omega
   obtain⟨q1,hq1⟩:∃q1,q1=y:=⟨_,rfl⟩
   subst hq1
   have hJ3:=hJ2
   have hrg3:=hrg2
   obtain⟨fn,tmps,assign,body,hy,hR⟩:=hY ss q1 _ hJ3 hlen
   have hll:=hpl.length_eq
   simp only[encS]at hen hy
   simp only[encS]
   clear hs2
   gi_wp2
   refine hR.mono ?_
   rintro e W3 (⟨rfl,hJ4,hk3⟩ | ⟨rfl,hJx3⟩)
   ·gi_wp2
    have hrg4:=hrg3.kept hk3
    go_roundw
    case rel=>exact⟨left2,ss++[q1],hrg4,hp2,hJ4⟩
    case measure=>rw[hrg4.left_eq,hrg.left_eq];simp at hll;omega
   ·gi_wp2
    refine bodyPost_ret (results_none rfl _ _ _) rfl ?_
    exact⟨⟨_,rfl⟩,.inr ⟨ss++[q1],trivial,hJx3⟩⟩
def Lz:Option Code->Code
 |some (.seq _ (.seq (.seq _ (.block _ (.rangeFunc _ _ a _))) _))=>a
 |_=>.skip
def Lx:Option Code->Code
 |some (.seq _ (.seq (.seq _ (.block _ (.rangeFunc _ _ _ b))) _))=>b
 |_=>.skip
def Ob (n:Nat) (A B:World):Prop:=KeepsWalks A B/\Below n A B
theorem J7 {α:Type}{F:Fence}{n:Nat}{P:Program}{g:Nat}{lb:Array Value}{encs:α->Array Value}{S Sp:List α->Prop}{N:Nat}{w:World} (m:Nat)(h:SeqStopsK F n P g lb encs KeepsWalks S Sp N w):SeqStopsK F n P g lb encs (Ob m) S Sp N w:=
 λl J Jx W hW hJ hJx hY h0=>h l J Jx W hW hJ hJx (λpre x W1 h1 h2=>by
  obtain⟨fn,tmps,assign,body,hy,hR⟩:=hY pre x W1 h1 h2
  exact⟨fn,tmps,assign,body,hy,hR.mono λe W' h=>h.imp (λ⟨a,b,c⟩=>⟨a,b,c.1⟩) id⟩) h0
theorem Ft {n:Nat}{w A B:World}(h:Below n w A) (k:Below n w B)(hs:A.heap.size<=B.heap.size):Below n A B:=
 ⟨k.os.trans h.os.symm,k.tape.trans h.tape.symm,k.output.trans h.output.symm,hs,λi hi=>(k.block i hi).trans (h.block i hi).symm⟩
theorem GJ (w:World) (x y:Value) (t:TypeId):∀j u,[x,y][j]?=some u->(w.alloc (.cells #[x,y] t)).cell? ((⟨w.heap.size,0,none⟩:Addr).add j)=some u:=by
 intro j u hj
 match j,hj with
 |0,hj=>simp at hj;subst hj;simp[Addr.add]
 |1,hj=>simp at hj;subst hj;simp[Addr.add]
noncomputable def AV:Code:=Lz Tryz.f187.body
noncomputable def GR:Code:=Lx Tryz.f187.body
noncomputable def mL (fn:FuncId) (sv:Value) (Bs D:Nat) (st:LoopState) (pend:Option Code):Loop:=
 { state:=st,pending:=pend,fn,tmps:=#[.slice none 0 0,sv,.pointer (some ⟨Bs,0,none⟩),undef,.slice none 0 0,undef,sv,undef,undef,undef,undef,undef,undef],params:=#[7],assign:=AV,body:=GR,defers:=D }
structure Ja (w0:World) (fn:FuncId) (sv:Value) (Bs l D:Nat) (ss:List (Bool × ByteArray)) (W:World):Prop where
 box:∃v,W.heap[Bs]?=some (.cells #[v] 23 (0,0))/\W.ownsRow w0.heap.size 51 2 v ss.length (ss.flatMap fC)/\(v=.slice none 0 0 ↔ ss=[])
 L:W.heap[l]?=some (.loop (mL fn sv Bs D .ready none))
 K:W.heap[D]?=some (.deferred (some []))
 below:Below w0.heap.size w0 W
theorem KD (w0:World) (fn:FuncId) (sv:Value) (Bs l D B:Nat)(hB:w0.heap.size<=B):AbidesFrom B (Ja w0 fn sv Bs l D):=λs W W' row h hg hrow=>by
 have hrow':∀r,row=some r->∃o:Obj,W.heap[r]?=some o/\o.isWalk=true:=λr e=>(hrow r e).2
 obtain⟨v,hv,hr,hn⟩:=h.box
 exact⟨⟨v,(grownBy_keeps hg hrow' hv rfl).trans hv,ownsRow_abides_a hr hg hrow',hn⟩,(grownBy_keeps hg hrow' h.L rfl).trans h.L,(grownBy_keeps hg hrow' h.K rfl).trans h.K,
  h.below.grown hg h.below.size (λk e=>gh hB (hrow k e).1)⟩
set_option maxRecDepth 100000 in
theorem Ru (F : Fence) (m : Nat) (w0 : World) (fn : FuncId) (hfn : F.fn fn) (sv : Value) (Bs l D : Nat) (hBl : Bs ≠ l) (hDl : D ≠ l) (hDB : D ≠ Bs) (h0B : w0.heap.size <= Bs) (h0l : w0.heap.size <= l)
    (N : Nat) (hN : N <= maxLen) (hNb : N * 24 <= 140737488355328) (ss : List (Bool × ByteArray)) (x : Bool × ByteArray) (W : World) (h : Ja w0 fn sv Bs l D ss W) (hlen : ss.length < N) :
    YieldAt F m Tryz.prog l #[qY x] W fun e W' => e = .returned (.bool true) /\ Ja w0 fn sv Bs l D (ss ++ [x]) W' /\ Ob w0.heap.size W W' := by
  obtain ⟨q1, q2⟩ := x
  obtain ⟨v, hv, hrow, _⟩ := h.box
  have h' := h
  refine ⟨fn, #[.slice none 0 0, sv, .pointer (some ⟨Bs, 0, none⟩), undef, .slice none 0 0, undef, sv, qY (q1, q2), undef, undef, undef, undef, undef], AV, GR, by simpa [mL] using run_yield (P := Tryz.prog) (args := #[qY (q1, q2)]) h.L rfl, roundIn_of_wpIn hfn ?_⟩
  have hBW : Bs < W.heap.size := (bh.1 hv).1
  have hlW : l < W.heap.size := (bh.1 h.L).1
  have hDW : D < W.heap.size := (bh.1 h.K).1
  have hv1 : (W.alloc (.cells #[.bool q1, .string q2] 51)).heap[Bs]? = some (.cells #[v] 23 (0, 0)) := (Below.heap_alloc _ _ Bs hBW).trans hv
  have hL1 : (W.alloc (.cells #[.bool q1, .string q2] 51)).heap[l]? = some (.loop (mL fn sv Bs D .ready none)) := (Below.heap_alloc _ _ l hlW).trans h.L
  have hK1 : (W.alloc (.cells #[.bool q1, .string q2] 51)).heap[D]? = some (.deferred (some [])) := (Below.heap_alloc _ _ D hDW).trans h.K
  have hrow1 : (W.alloc (.cells #[.bool q1, .string q2] 51)).ownsRow w0.heap.size 51 2 v ss.length (ss.flatMap fC) := hrow.alloc _
  have hb1 : Below w0.heap.size w0 (W.alloc (.cells #[.bool q1, .string q2] 51)) := h.below.alloc h.below.size _
  have hk1 : KeepsWalks W (W.alloc (.cells #[.bool q1, .string q2] 51)) := KeepsWalks.alloc _ _
  have hbr := run_beginRound (P := Tryz.prog) hL1 rfl
  obtain ⟨W2, hW2⟩ : ∃ W2, (W.alloc (.cells #[.bool q1, .string q2] 51)).putObj l (.loop { mL fn sv Bs D .ready none with state := .busy }) = W2 := ⟨_, rfl⟩
  rw [hW2] at hbr
  have hl1 : l < (W.alloc (.cells #[.bool q1, .string q2] 51)).heap.size := (bh.1 hL1).1
  have hg2 : (W.alloc (.cells #[.bool q1, .string q2] 51)).grownBy W2 (some l) := by rw [<- hW2]; exact grownBy_putObj_a _ _ _
  have hk2 : KeepsWalks W W2 := hk1.trans (by rw [<- hW2]; exact KeepsWalks.putObj _ hL1 rfl)
  have hv2 : W2.heap[Bs]? = some (.cells #[v] 23 (0, 0)) := by rw [<- hW2]; exact (World.putObj_heap_other hBl).trans hv1
  have hK2 : W2.heap[D]? = some (.deferred (some [])) := by rw [<- hW2]; exact (World.putObj_heap_other hDl).trans hK1
  have hL2 : W2.heap[l]? = some (.loop { mL fn sv Bs D .ready none with state := .busy }) := by rw [<- hW2]; exact World.putObj_heap_same hl1
  have hrow2 : W2.ownsRow w0.heap.size 51 2 v ss.length (ss.flatMap fC) := hrow1.kept hg2 (ownsRow_ne_a hrow1 hL1 (fun cur e => by cases e))
  have hb2 : Below w0.heap.size w0 W2 := hb1.grown hg2 hb1.size (fun k e => by cases e; exact h0l)
  have hBlt : Bs < W2.heap.size := (bh.1 hv2).1
  have hl2 : l < W2.heap.size := (bh.1 hL2).1
  have hDlt : D < W2.heap.size := (bh.1 hK2).1
  obtain ⟨hc2, hf2⟩ := cell_of_box_a hv2
  have hx2 : W2.heap[W.heap.size]? = some (.cells #[.bool q1, .string q2] 51 (0, 0)) := by rw [<- hW2]; exact (World.putObj_heap_other (by omega)).trans (World.alloc_heap_new W _)
  have hxA : W2.cell? ⟨W.heap.size, 0, none⟩ = some (.bool q1) := by simp [World.cell?, hx2]
  have hxB : W2.cell? ⟨W.heap.size, 1, none⟩ = some (.string q2) := by simp [World.cell?, hx2]
  have qF : ∀ {j : Nat} {o : Obj}, W2.heap[j]? = some o -> (∀ cur, o ≠ .cells cur 51 (0, 0)) -> some j ≠ v.ownBlock := fun hj hno => by
    rcases ownsRow_ne_a hrow2 hj hno with e | e
    · rw [e]; simp
    · exact fun e' => e e'.symm
  clear hW2
  simp only [AV, Lz, Tryz.f187, qY]
  gi_wp2_with (rw [Oper.semAt_eq _ _ _ (fun c h => by cases h)]; go_simp; try go_bits)
  simp only [GR, Lx, Tryz.f187]
  gi_wp2_with (first
    | (gi_at_builtin; refine wpListIn_append_own _ rfl _ _ 23 rfl w0.heap.size 51 _ (.agg #[.bool false, .string ⟨#[]⟩]) 2 24 Tryz.underlying23 Tryz.type51 rfl rfl rfl rfl (by decide) _ _ _ rfl (hrow2.alloc _) ⟨W2.heap.size, 0, none⟩ 1 1 [.bool q1, .string q2] rfl rfl (GJ _ _ _ _) (by simp [Value.oneCell']) (by omega) (by omega) (by have := hb2.size; simp; omega) ?_; intro v' w3 hown' hg3 hnil3
       have hv3 : w3.heap[Bs]? = some (.cells #[v] 23 (0, 0)) := (hg3.block Bs (by simp; omega) (qF hv2 (fun cur e => by cases e))).trans ((Below.heap_alloc _ _ Bs hBlt).trans hv2)
       obtain ⟨hc3, hf3⟩ := cell_of_box_a hv3
       obtain ⟨g', cap', cur', rfl, hbase', hgb', hr1, hr2, hr3, hr4⟩ : ∃ g' cap' cur', v' = .slice (some ⟨g', 0, none⟩) (ss.length + 1) cap' /\ w0.heap.size <= g' /\ w3.heap[g']? = some (.cells cur' 51 (0, 0)) /\ ss.length + 1 <= cap' /\ cap' <= maxLen /\ cur'.size = cap' * 2 /\ cur'.toList.take ((ss.length + 1) * 2) = ss.flatMap fC ++ [.bool q1, .string q2] := by
         rcases hown'.2 with ⟨_, h0⟩ | h'
         · exact absurd h0 (by omega)
         · exact h'
       go_frame)
    | (rw [Oper.semAt_eq _ _ _ (fun c h => by cases h)]; go_simp; try go_bits))
  have hg3' : (W2.alloc (.cells #[.bool q1, .string q2] 51)).grownBy w3 v.ownBlock := hg3
  have hL3 : w3.heap[l]? = some (.loop { mL fn sv Bs D .ready none with state := .busy }) := (hg3'.block l (by simp; omega) (qF hL2 (fun cur e => by cases e))).trans ((Below.heap_alloc _ _ l hl2).trans hL2)
  have hK3 : w3.heap[D]? = some (.deferred (some [])) := (hg3'.block D (by simp; omega) (qF hK2 (fun cur e => by cases e))).trans ((Below.heap_alloc _ _ D hDlt).trans hK2)
  obtain ⟨w4, hw4⟩ : ∃ w4, w3.setCell ⟨Bs, 0, none⟩ (.slice (some ⟨g', 0, none⟩) (ss.length + 1) cap') = w4 := ⟨_, rfl⟩
  rw [hw4]
  have hg4 : w3.grownBy w4 (some Bs) := by rw [<- hw4]; exact grownBy_setCell0_a _ _ _
  have hv4 : w4.heap[Bs]? = some (.cells #[.slice (some ⟨g', 0, none⟩) (ss.length + 1) cap'] 23 (0, 0)) := by rw [<- hw4]; exact heap_setCell_box_a _ hv3
  have hL4 : w4.heap[l]? = some (.loop { mL fn sv Bs D .ready none with state := .busy }) := (hg4.block l (bh.1 hL3).1 (fun e => hBl (by cases e; rfl))).trans hL3
  have hK4 : w4.heap[D]? = some (.deferred (some [])) := (hg4.block D (bh.1 hK3).1 (fun e => hDB (by cases e; rfl))).trans hK3
  have hrow4 := hown'.kept hg4 (ownsRow_ne_a hown' hv3 (fun cur e => by cases e))
  have hl4 : l < w4.heap.size := (bh.1 hL4).1
  have hb3 : Below w0.heap.size w0 w3 := (hb2.alloc hb2.size _).grown hg3' (by have := hb2.size; simp; omega) (fun k e => (hrow2.lt k e).1)
  have hb4 : Below w0.heap.size w0 w4 := hb3.grown hg4 hb3.size (fun k e => by cases e; exact h0B)
  have hk4 : KeepsWalks W w4 := ((hk2.trans (KeepsWalks.alloc _ _)).trans (KeepsWalks.of_grownBy hg3' (ownsRow_not_walk_a (hrow2.alloc _)))).trans (by rw [<- hw4]; exact KeepsWalks.setCell _ _ _)
  clear hw4
  have hb5 := hb4.grown (grownBy_putObj_a w4 l (.loop { { mL fn sv Bs D .ready none with state := .busy } with state := if (none : Option Code).isNone then .ready else .done, pending := none })) hb4.size (fun k e => by cases e; exact h0l)
  have hk5 := hk4.trans (KeepsWalks.putObj (.loop { { mL fn sv Bs D .ready none with state := .busy } with state := if (none : Option Code).isNone then .ready else .done, pending := none }) hL4 rfl)
  refine ⟨_, _, run_endRound none hL4, rfl, ⟨⟨_, (World.putObj_heap_other hBl).trans hv4, ?_, by simp⟩, World.putObj_heap_same hl4, (World.putObj_heap_other hDl).trans hK4, hb5⟩, hk5, Ft h'.below hb5 hk5.size⟩
  have := hrow4.kept (grownBy_putObj_a w4 l (.loop { { mL fn sv Bs D .ready none with state := .busy } with state := if (none : Option Code).isNone then .ready else .done, pending := none })) (ownsRow_ne_a hrow4 hL4 (fun cur e => by cases e))
  simpa [fC] using this
set_option maxRecDepth 100000 in
theorem KA (F : Fence) (n : Nat) (hF : F.fn 187) (hro : F.round = none) (hn : 2 <= n) (g : Nat) (lb : Array Value) (hFg : F.fn g) (eg : ∀ args w, (callFunc g args).run Tryz.prog w = .ok (.enter g args) w)
    (S : List (Bool × ByteArray) -> Prop) (N : Nat) (hN : N <= maxLen) (hNb : N * 24 <= 140737488355328) (w : World) (hseq : SeqStopsK F (n - 1) Tryz.prog g lb (fun x => #[qY x]) (Ob w.heap.size) S (fun _ => True) N w) :
    CallsIn F n Tryz.prog 187 #[.slice none 0 0, .func (.func g) #[] lb] w fun e w' => ∃ (v : Value) (ss : List (Bool × ByteArray)), e = .returned v /\ S ss /\ w'.ownsRow w.heap.size 51 2 v ss.length (ss.flatMap fC) /\ (v = .slice none 0 0 ↔ ss = []) /\ Below w.heap.size w w' := by
  have h1 : 1 <= n := by omega
  refine callsIn_of_wp_marks Tryz.func187 rfl hF ?_ hro
  simp only [Tryz.ntmps187, l8, aa, bf, reduceAdd, reduceSub, jz, k8, mm, l9, cq, dy]
  gi_wp2
  refine wpIn_rangeFunc ?_
  intro fn hfn
  rw [hro]
  obtain ⟨W0, hW0⟩ : ∃ W0, w.alloc (.cells #[.slice none 0 0] 23) = W0 := ⟨_, rfl⟩
  have hs0 : W0.heap.size = w.heap.size + 1 := by rw [<- hW0]; simp
  have hv0 : W0.heap[w.heap.size]? = some (.cells #[.slice none 0 0] 23 (0, 0)) := by rw [<- hW0]; exact World.alloc_heap_new w _
  have hb0 : Below w.heap.size w W0 := by rw [<- hW0]; exact (Below.refl _ w).alloc (ae _) _
  rw [hW0]
  obtain ⟨W1, hW1⟩ : ∃ W1, (W0.alloc (.deferred (some []))).alloc (.loop (mL fn (.func (.func g) #[] lb) w.heap.size W0.heap.size .ready none)) = W1 := ⟨_, rfl⟩
  have hold : ∀ k, k < W0.heap.size -> W1.heap[k]? = W0.heap[k]? := fun k hk => by
    rw [<- hW1]; exact (Below.heap_alloc _ _ k (by simp; omega)).trans (Below.heap_alloc _ _ k hk)
  have hb1 : Below w.heap.size w W1 := by rw [<- hW1]; exact (hb0.alloc hb0.size _).alloc (by have := hb0.size; simp; omega) _
  have hM : Ja w fn (.func (.func g) #[] lb) w.heap.size (W0.heap.size + 1) W0.heap.size [] W1 :=
    ⟨⟨_, (hold w.heap.size (by omega)).trans hv0, ⟨rfl, .inl ⟨rfl, rfl⟩⟩, by simp⟩,
     by rw [<- hW1]; have := World.alloc_heap_new (W0.alloc (.deferred (some []))) (.loop (mL fn (.func (.func g) #[] lb) w.heap.size W0.heap.size .ready none)); rwa [World.size_alloc] at this,
     by rw [<- hW1]; exact (Below.heap_alloc _ _ _ (by simp)).trans (World.alloc_heap_new W0 _), hb1⟩
  refine ⟨W0.heap.size + 1, [{ target := .collected W0.heap.size, args := #[] }], W1, { target := .fn (.func g) lb, args := #[.func (.yield (W0.heap.size + 1)) #[] #[]] }, W1, g,
    #[.func (.yield (W0.heap.size + 1)) #[] #[]] ++ lb, W1, ?_, ?_, ?_, ?_, fun _ => h1, ?_⟩
  · rw [<- hW1]; exact run_enterLoop_outer _ _ _ _ _
  · simp [resolve, go_sem]
  · intro f' hf'; simp [Target.leads] at hf'; subst hf'; exact hFg
  · simp [invoke, go_sem, eg]
  · refine (hseq (W0.heap.size + 1) (Ja w fn (.func (.func g) #[] lb) w.heap.size (W0.heap.size + 1) W0.heap.size) (fun _ _ => False) W1 hb1 (KD _ _ _ _ _ _ _ hb1.size) (fun _ _ _ _ h _ _ => h)
      (fun pre x W hJ hl => by
        obtain ⟨fn', tmps, assign, body, hy, hR⟩ := Ru F (n - 1 - 1) w fn hfn _ w.heap.size (W0.heap.size + 1) W0.heap.size (by omega) (by omega) (by omega) (ae _) (by omega) N hN hNb pre x W hJ hl
        exact ⟨fn', tmps, assign, body, hy, hR.mono fun e W' h => .inl h⟩) hM).mono ?_
    rintro e W2 ⟨⟨v0, rfl⟩, ⟨ss, hS, h2⟩ | ⟨_, _, hf⟩⟩
    case inr => exact hf.elim
    obtain ⟨v, hv, hrow, hnil⟩ := h2.box
    have hend := run_endLoop (P := Tryz.prog) h2.L (by simp [mL])
    obtain ⟨W3, hW3⟩ : ∃ W3, W2.putObj (W0.heap.size + 1) (.loop { mL fn (.func (.func g) #[] lb) w.heap.size W0.heap.size .ready none with state := .exhausted }) = W3 := ⟨_, rfl⟩
    rw [hW3] at hend
    have hg3 : W2.grownBy W3 (some (W0.heap.size + 1)) := by rw [<- hW3]; exact grownBy_putObj_a _ _ _
    have hv3 : W3.heap[w.heap.size]? = some (.cells #[v] 23 (0, 0)) := by rw [<- hW3]; exact (World.putObj_heap_other (by omega)).trans hv
    have hK3 : W3.heap[W0.heap.size]? = some (.deferred (some [])) := by rw [<- hW3]; exact (World.putObj_heap_other (by omega)).trans h2.K
    have hrow3 := hrow.kept hg3 (ownsRow_ne_a hrow h2.L (fun cur e => by cases e))
    have hb3 : Below w.heap.size w W3 := h2.below.grown hg3 h2.below.size (fun k e => by cases e; omega)
    obtain ⟨hc3, hf3⟩ := cell_of_box_a hv3
    clear hW3
    refine ⟨none, W3, hend, ?_⟩
    gi_wp2
    rw [<- hs0]
    refine ⟨by simp, .inl ⟨_, _, rfl, run_takeDeferred hK3, ?_⟩⟩
    exact ⟨_, results_tmp rfl _ _ _, v, ss, rfl, hS, hrow3.kept (grownBy_putObj_a _ _ _) (ownsRow_ne_a hrow3 hK3 (fun cur e => by cases e)), hnil, hb3.grown (grownBy_putObj_a _ _ _) hb3.size (fun k e => by cases e; omega)⟩
theorem QG (F:Fence) (n:Nat)(hC:F.fn 152)(hF:F.fn 187)(hro:F.round=none)(hn:3<=n) (g:Nat) (lb:Array Value)(hFg:F.fn g) (eg:∀args w,(callFunc g args).run Tryz.prog w=.ok (.enter g args) w)
  (S:List (Bool × ByteArray)->Prop) (N:Nat)(hN:N<=maxLen)(hNb:N*24<=140737488355328) (w:World)(hseq:SeqStopsK F (n-1-1) Tryz.prog g lb (λx=>#[qY x]) (Ob w.heap.size) S (λ_=>True) N w) :
  CallsIn F n Tryz.prog 152 #[.func (.func g) #[] lb] w λe w'=>∃(v:Value) (ss:List (Bool × ByteArray)),e=.returned v/\S ss/\w'.ownsRow w.heap.size 51 2 v ss.length (ss.flatMap fC)/\(v=.slice none 0 0 ↔ ss=[])/\Below w.heap.size w w':=by
 have h1:1<=n:=by omega
 refine callsIn_of_wp Tryz.func152 rfl hC ?_ hro
 simp only[Tryz.ntmps152,l8,aa,bf,reduceAdd,reduceSub,jz,k8,mm,l9,cq,dy]
 gi_wp2_with (gi_at_call 187;refine (KA F (n-1) hF hro (by omega) g lb hFg eg S N hN hNb _ hseq).mono ?_;rintro e w' ⟨v,ss,rfl,hS,hrow,hnil,hb⟩)
 go_ret
 exact⟨v,ss,rfl,hS,hrow,hnil,hb⟩
noncomputable def AU:Code:=Lz Tryz.f171.body
noncomputable def GQ:Code:=Lx Tryz.f171.body
noncomputable def nB (fn:FuncId) (sv:Value) (Bs D:Nat) (st:LoopState) (pend:Option Code):Loop:=
 { state:=st,pending:=pend,fn,tmps:=#[.slice none 0 0,sv,.pointer (some ⟨Bs,0,none⟩),undef,.slice none 0 0,undef,sv,undef,undef,undef,undef,undef,undef],params:=#[7],assign:=AU,body:=GQ,defers:=D }
structure I_ (w0:World) (fn:FuncId) (sv:Value) (Bs l D:Nat) (ss:List (ByteArray)) (W:World):Prop where
 box:∃v,W.heap[Bs]?=some (.cells #[v] 24 (0,0))/\W.ownsRow w0.heap.size 9 1 v ss.length (ss.flatMap pX)/\(v=.slice none 0 0 ↔ ss=[])
 L:W.heap[l]?=some (.loop (nB fn sv Bs D .ready none))
 K:W.heap[D]?=some (.deferred (some []))
 below:Below w0.heap.size w0 W
theorem KB (w0:World) (fn:FuncId) (sv:Value) (Bs l D B:Nat)(hB:w0.heap.size<=B):AbidesFrom B (I_ w0 fn sv Bs l D):=λs W W' row h hg hrow=>by
 have hrow':∀r,row=some r->∃o:Obj,W.heap[r]?=some o/\o.isWalk=true:=λr e=>(hrow r e).2
 obtain⟨v,hv,hr,hn⟩:=h.box
 exact⟨⟨v,(grownBy_keeps hg hrow' hv rfl).trans hv,ownsRow_abides_a hr hg hrow',hn⟩,(grownBy_keeps hg hrow' h.L rfl).trans h.L,(grownBy_keeps hg hrow' h.K rfl).trans h.K,
  h.below.grown hg h.below.size (λk e=>gh hB (hrow k e).1)⟩
set_option maxRecDepth 100000 in
theorem Rt (F : Fence) (m : Nat) (w0 : World) (fn : FuncId) (hfn : F.fn fn) (sv : Value) (Bs l D : Nat) (hBl : Bs ≠ l) (hDl : D ≠ l) (hDB : D ≠ Bs) (h0B : w0.heap.size <= Bs) (h0l : w0.heap.size <= l)
    (N : Nat) (hN : N <= maxLen) (hNb : N * 16 <= 140737488355328) (ss : List (ByteArray)) (x : ByteArray) (W : World) (h : I_ w0 fn sv Bs l D ss W) (hlen : ss.length < N) :
    YieldAt F m Tryz.prog l #[encS x] W fun e W' => e = .returned (.bool true) /\ I_ w0 fn sv Bs l D (ss ++ [x]) W' /\ Ob w0.heap.size W W' := by
  obtain ⟨q1, hq1⟩ : ∃ q1, q1 = x := ⟨_, rfl⟩
  subst hq1
  obtain ⟨v, hv, hrow, _⟩ := h.box
  have h' := h
  refine ⟨fn, #[.slice none 0 0, sv, .pointer (some ⟨Bs, 0, none⟩), undef, .slice none 0 0, undef, sv, encS q1, undef, undef, undef, undef, undef], AU, GQ, by simpa [nB] using run_yield (P := Tryz.prog) (args := #[encS q1]) h.L rfl, roundIn_of_wpIn hfn ?_⟩
  have hv1 := hv
  have hL1 := h.L
  have hK1 := h.K
  have hrow1 := hrow
  have hb1 := h.below
  have hk1 := KeepsWalks.refl W
  have hbr := run_beginRound (P := Tryz.prog) hL1 rfl
  obtain ⟨W2, hW2⟩ : ∃ W2, W.putObj l (.loop { nB fn sv Bs D .ready none with state := .busy }) = W2 := ⟨_, rfl⟩
  rw [hW2] at hbr
  have hl1 : l < W.heap.size := (bh.1 hL1).1
  have hg2 : W.grownBy W2 (some l) := by rw [<- hW2]; exact grownBy_putObj_a _ _ _
  have hk2 : KeepsWalks W W2 := hk1.trans (by rw [<- hW2]; exact KeepsWalks.putObj _ hL1 rfl)
  have hv2 : W2.heap[Bs]? = some (.cells #[v] 24 (0, 0)) := by rw [<- hW2]; exact (World.putObj_heap_other hBl).trans hv1
  have hK2 : W2.heap[D]? = some (.deferred (some [])) := by rw [<- hW2]; exact (World.putObj_heap_other hDl).trans hK1
  have hL2 : W2.heap[l]? = some (.loop { nB fn sv Bs D .ready none with state := .busy }) := by rw [<- hW2]; exact World.putObj_heap_same hl1
  have hrow2 : W2.ownsRow w0.heap.size 9 1 v ss.length (ss.flatMap pX) := hrow1.kept hg2 (ownsRow_ne_a hrow1 hL1 (fun cur e => by cases e))
  have hb2 : Below w0.heap.size w0 W2 := hb1.grown hg2 hb1.size (fun k e => by cases e; exact h0l)
  have hBlt : Bs < W2.heap.size := (bh.1 hv2).1
  have hl2 : l < W2.heap.size := (bh.1 hL2).1
  have hDlt : D < W2.heap.size := (bh.1 hK2).1
  obtain ⟨hc2, hf2⟩ := cell_of_box_a hv2
  have qF : ∀ {j : Nat} {o : Obj}, W2.heap[j]? = some o -> (∀ cur, o ≠ .cells cur 9 (0, 0)) -> some j ≠ v.ownBlock := fun hj hno => by
    rcases ownsRow_ne_a hrow2 hj hno with e | e
    · rw [e]; simp
    · exact fun e' => e e'.symm
  clear hW2
  simp only [AU, Lz, Tryz.f171, encS]
  gi_wp2_with (rw [Oper.semAt_eq _ _ _ (fun c h => by cases h)]; go_simp; try go_bits)
  simp only [GQ, Lx, Tryz.f171]
  gi_wp2_with (first
    | (gi_at_builtin; refine wpListIn_append_own _ rfl _ _ 24 rfl w0.heap.size 9 _ (.string ⟨#[]⟩) 1 16 Tryz.underlying24 Tryz.type9 rfl rfl rfl rfl (by decide) _ _ _ rfl (hrow2.alloc _) ⟨W2.heap.size, 0, none⟩ 1 1 [.string q1] rfl rfl (cell_one_new _ _ _) (by simp [Value.oneCell']) (by omega) (by omega) (by have := hb2.size; simp; omega) ?_; intro v' w3 hown' hg3 hnil3
       have hv3 : w3.heap[Bs]? = some (.cells #[v] 24 (0, 0)) := (hg3.block Bs (by simp; omega) (qF hv2 (fun cur e => by cases e))).trans ((Below.heap_alloc _ _ Bs hBlt).trans hv2)
       obtain ⟨hc3, hf3⟩ := cell_of_box_a hv3
       obtain ⟨g', cap', cur', rfl, hbase', hgb', hr1, hr2, hr3, hr4⟩ : ∃ g' cap' cur', v' = .slice (some ⟨g', 0, none⟩) (ss.length + 1) cap' /\ w0.heap.size <= g' /\ w3.heap[g']? = some (.cells cur' 9 (0, 0)) /\ ss.length + 1 <= cap' /\ cap' <= maxLen /\ cur'.size = cap' * 1 /\ cur'.toList.take ((ss.length + 1) * 1) = ss.flatMap pX ++ [.string q1] := by
         rcases hown'.2 with ⟨_, h0⟩ | h'
         · exact absurd h0 (by omega)
         · exact h'
       go_frame)
    | (rw [Oper.semAt_eq _ _ _ (fun c h => by cases h)]; go_simp; try go_bits))
  have hg3' : (W2.alloc (.cells #[.string q1] 9)).grownBy w3 v.ownBlock := hg3
  have hL3 : w3.heap[l]? = some (.loop { nB fn sv Bs D .ready none with state := .busy }) := (hg3'.block l (by simp; omega) (qF hL2 (fun cur e => by cases e))).trans ((Below.heap_alloc _ _ l hl2).trans hL2)
  have hK3 : w3.heap[D]? = some (.deferred (some [])) := (hg3'.block D (by simp; omega) (qF hK2 (fun cur e => by cases e))).trans ((Below.heap_alloc _ _ D hDlt).trans hK2)
  obtain ⟨w4, hw4⟩ : ∃ w4, w3.setCell ⟨Bs, 0, none⟩ (.slice (some ⟨g', 0, none⟩) (ss.length + 1) cap') = w4 := ⟨_, rfl⟩
  rw [hw4]
  have hg4 : w3.grownBy w4 (some Bs) := by rw [<- hw4]; exact grownBy_setCell0_a _ _ _
  have hv4 : w4.heap[Bs]? = some (.cells #[.slice (some ⟨g', 0, none⟩) (ss.length + 1) cap'] 24 (0, 0)) := by rw [<- hw4]; exact heap_setCell_box_a _ hv3
  have hL4 : w4.heap[l]? = some (.loop { nB fn sv Bs D .ready none with state := .busy }) := (hg4.block l (bh.1 hL3).1 (fun e => hBl (by cases e; rfl))).trans hL3
  have hK4 : w4.heap[D]? = some (.deferred (some [])) := (hg4.block D (bh.1 hK3).1 (fun e => hDB (by cases e; rfl))).trans hK3
  have hrow4 := hown'.kept hg4 (ownsRow_ne_a hown' hv3 (fun cur e => by cases e))
  have hl4 : l < w4.heap.size := (bh.1 hL4).1
  have hb3 : Below w0.heap.size w0 w3 := (hb2.alloc hb2.size _).grown hg3' (by have := hb2.size; simp; omega) (fun k e => (hrow2.lt k e).1)
  have hb4 : Below w0.heap.size w0 w4 := hb3.grown hg4 hb3.size (fun k e => by cases e; exact h0B)
  have hk4 : KeepsWalks W w4 := ((hk2.trans (KeepsWalks.alloc _ _)).trans (KeepsWalks.of_grownBy hg3' (ownsRow_not_walk_a (hrow2.alloc _)))).trans (by rw [<- hw4]; exact KeepsWalks.setCell _ _ _)
  clear hw4
  have hb5 := hb4.grown (grownBy_putObj_a w4 l (.loop { { nB fn sv Bs D .ready none with state := .busy } with state := if (none : Option Code).isNone then .ready else .done, pending := none })) hb4.size (fun k e => by cases e; exact h0l)
  have hk5 := hk4.trans (KeepsWalks.putObj (.loop { { nB fn sv Bs D .ready none with state := .busy } with state := if (none : Option Code).isNone then .ready else .done, pending := none }) hL4 rfl)
  refine ⟨_, _, run_endRound none hL4, rfl, ⟨⟨_, (World.putObj_heap_other hBl).trans hv4, ?_, by simp⟩, World.putObj_heap_same hl4, (World.putObj_heap_other hDl).trans hK4, hb5⟩, hk5, Ft h'.below hb5 hk5.size⟩
  have := hrow4.kept (grownBy_putObj_a w4 l (.loop { { nB fn sv Bs D .ready none with state := .busy } with state := if (none : Option Code).isNone then .ready else .done, pending := none })) (ownsRow_ne_a hrow4 hL4 (fun cur e => by cases e))
  simpa [pX] using this
set_option maxRecDepth 100000 in
theorem Kz (F : Fence) (n : Nat) (hF : F.fn 171) (hro : F.round = none) (hn : 2 <= n) (g : Nat) (lb : Array Value) (hFg : F.fn g) (eg : ∀ args w, (callFunc g args).run Tryz.prog w = .ok (.enter g args) w)
    (S : List (ByteArray) -> Prop) (N : Nat) (hN : N <= maxLen) (hNb : N * 16 <= 140737488355328) (w : World) (hseq : SeqStopsK F (n - 1) Tryz.prog g lb (fun x => #[encS x]) (Ob w.heap.size) S (fun _ => True) N w) :
    CallsIn F n Tryz.prog 171 #[.slice none 0 0, .func (.func g) #[] lb] w fun e w' => ∃ (v : Value) (ss : List (ByteArray)), e = .returned v /\ S ss /\ w'.ownsRow w.heap.size 9 1 v ss.length (ss.flatMap pX) /\ (v = .slice none 0 0 ↔ ss = []) /\ Below w.heap.size w w' := by
  have h1 : 1 <= n := by omega
  refine callsIn_of_wp_marks Tryz.func171 rfl hF ?_ hro
  simp only [Tryz.ntmps171, l8, aa, bf, reduceAdd, reduceSub, jz, k8, mm, l9, cq, dy]
  gi_wp2
  refine wpIn_rangeFunc ?_
  intro fn hfn
  rw [hro]
  obtain ⟨W0, hW0⟩ : ∃ W0, w.alloc (.cells #[.slice none 0 0] 24) = W0 := ⟨_, rfl⟩
  have hs0 : W0.heap.size = w.heap.size + 1 := by rw [<- hW0]; simp
  have hv0 : W0.heap[w.heap.size]? = some (.cells #[.slice none 0 0] 24 (0, 0)) := by rw [<- hW0]; exact World.alloc_heap_new w _
  have hb0 : Below w.heap.size w W0 := by rw [<- hW0]; exact (Below.refl _ w).alloc (ae _) _
  rw [hW0]
  obtain ⟨W1, hW1⟩ : ∃ W1, (W0.alloc (.deferred (some []))).alloc (.loop (nB fn (.func (.func g) #[] lb) w.heap.size W0.heap.size .ready none)) = W1 := ⟨_, rfl⟩
  have hold : ∀ k, k < W0.heap.size -> W1.heap[k]? = W0.heap[k]? := fun k hk => by
    rw [<- hW1]; exact (Below.heap_alloc _ _ k (by simp; omega)).trans (Below.heap_alloc _ _ k hk)
  have hb1 : Below w.heap.size w W1 := by rw [<- hW1]; exact (hb0.alloc hb0.size _).alloc (by have := hb0.size; simp; omega) _
  have hM : I_ w fn (.func (.func g) #[] lb) w.heap.size (W0.heap.size + 1) W0.heap.size [] W1 :=
    ⟨⟨_, (hold w.heap.size (by omega)).trans hv0, ⟨rfl, .inl ⟨rfl, rfl⟩⟩, by simp⟩,
     by rw [<- hW1]; have := World.alloc_heap_new (W0.alloc (.deferred (some []))) (.loop (nB fn (.func (.func g) #[] lb) w.heap.size W0.heap.size .ready none)); rwa [World.size_alloc] at this,
     by rw [<- hW1]; exact (Below.heap_alloc _ _ _ (by simp)).trans (World.alloc_heap_new W0 _), hb1⟩
  refine ⟨W0.heap.size + 1, [{ target := .collected W0.heap.size, args := #[] }], W1, { target := .fn (.func g) lb, args := #[.func (.yield (W0.heap.size + 1)) #[] #[]] }, W1, g,
    #[.func (.yield (W0.heap.size + 1)) #[] #[]] ++ lb, W1, ?_, ?_, ?_, ?_, fun _ => h1, ?_⟩
  · rw [<- hW1]; exact run_enterLoop_outer _ _ _ _ _
  · simp [resolve, go_sem]
  · intro f' hf'; simp [Target.leads] at hf'; subst hf'; exact hFg
  · simp [invoke, go_sem, eg]
  · refine (hseq (W0.heap.size + 1) (I_ w fn (.func (.func g) #[] lb) w.heap.size (W0.heap.size + 1) W0.heap.size) (fun _ _ => False) W1 hb1 (KB _ _ _ _ _ _ _ hb1.size) (fun _ _ _ _ h _ _ => h)
      (fun pre x W hJ hl => by
        obtain ⟨fn', tmps, assign, body, hy, hR⟩ := Rt F (n - 1 - 1) w fn hfn _ w.heap.size (W0.heap.size + 1) W0.heap.size (by omega) (by omega) (by omega) (ae _) (by omega) N hN hNb pre x W hJ hl
        exact ⟨fn', tmps, assign, body, hy, hR.mono fun e W' h => .inl h⟩) hM).mono ?_
    rintro e W2 ⟨⟨v0, rfl⟩, ⟨ss, hS, h2⟩ | ⟨_, _, hf⟩⟩
    case inr => exact hf.elim
    obtain ⟨v, hv, hrow, hnil⟩ := h2.box
    have hend := run_endLoop (P := Tryz.prog) h2.L (by simp [nB])
    obtain ⟨W3, hW3⟩ : ∃ W3, W2.putObj (W0.heap.size + 1) (.loop { nB fn (.func (.func g) #[] lb) w.heap.size W0.heap.size .ready none with state := .exhausted }) = W3 := ⟨_, rfl⟩
    rw [hW3] at hend
    have hg3 : W2.grownBy W3 (some (W0.heap.size + 1)) := by rw [<- hW3]; exact grownBy_putObj_a _ _ _
    have hv3 : W3.heap[w.heap.size]? = some (.cells #[v] 24 (0, 0)) := by rw [<- hW3]; exact (World.putObj_heap_other (by omega)).trans hv
    have hK3 : W3.heap[W0.heap.size]? = some (.deferred (some [])) := by rw [<- hW3]; exact (World.putObj_heap_other (by omega)).trans h2.K
    have hrow3 := hrow.kept hg3 (ownsRow_ne_a hrow h2.L (fun cur e => by cases e))
    have hb3 : Below w.heap.size w W3 := h2.below.grown hg3 h2.below.size (fun k e => by cases e; omega)
    obtain ⟨hc3, hf3⟩ := cell_of_box_a hv3
    clear hW3
    refine ⟨none, W3, hend, ?_⟩
    gi_wp2
    rw [<- hs0]
    refine ⟨by simp, .inl ⟨_, _, rfl, run_takeDeferred hK3, ?_⟩⟩
    exact ⟨_, results_tmp rfl _ _ _, v, ss, rfl, hS, hrow3.kept (grownBy_putObj_a _ _ _) (ownsRow_ne_a hrow3 hK3 (fun cur e => by cases e)), hnil, hb3.grown (grownBy_putObj_a _ _ _) hb3.size (fun k e => by cases e; omega)⟩
theorem QF (F:Fence) (n:Nat)(hC:F.fn 130)(hF:F.fn 171)(hro:F.round=none)(hn:3<=n) (g:Nat) (lb:Array Value)(hFg:F.fn g) (eg:∀args w,(callFunc g args).run Tryz.prog w=.ok (.enter g args) w)
  (S:List (ByteArray)->Prop) (N:Nat)(hN:N<=maxLen)(hNb:N*16<=140737488355328) (w:World)(hseq:SeqStopsK F (n-1-1) Tryz.prog g lb (λx=>#[encS x]) (Ob w.heap.size) S (λ_=>True) N w) :
  CallsIn F n Tryz.prog 130 #[.func (.func g) #[] lb] w λe w'=>∃(v:Value) (ss:List (ByteArray)),e=.returned v/\S ss/\w'.ownsRow w.heap.size 9 1 v ss.length (ss.flatMap pX)/\(v=.slice none 0 0 ↔ ss=[])/\Below w.heap.size w w':=by
 have h1:1<=n:=by omega
 refine callsIn_of_wp Tryz.func130 rfl hC ?_ hro
 simp only[Tryz.ntmps130,l8,aa,bf,reduceAdd,reduceSub,jz,k8,mm,l9,cq,dy]
 gi_wp2_with (gi_at_call 171;refine (Kz F (n-1) hF hro (by omega) g lb hFg eg S N hN hNb _ hseq).mono ?_;rintro e w' ⟨v,ss,rfl,hS,hrow,hnil,hb⟩)
 go_ret
 exact⟨v,ss,rfl,hS,hrow,hnil,hb⟩
end Go.AxC
end
section
namespace Go.Proofs
open Go.Shelf
def Tryz.sort79_ren:Go.Shelf.Ren:=⟨fun | 6=>79 | 8=>124 | 9=>123 | 19=>169 | 20=>170 | 21=>160 | 22=>161 | 23=>162 | 24=>163 | 25=>164 | 26=>165 | 27=>166 | 28=>167 | 29=>168 | 36=>191 | 31=>192 | 32=>193 | 37=>194 | 38=>195 | 39=>189 | 41=>228 | n=>n,fun | 27=>24 | 29=>9 | 3=>3 | 32=>151 | 26=>24 | 0=>0 | 44=>186 | 46=>188 | 4=>4 | 36=>179 | 35=>178 | 41=>133 | 5=>5 | 9=>9 | 53=>210 | 57=>214 | 63=>240 | 64=>241 | n=>n,fun | n=>n⟩
theorem Tryz.sort79:Go.Proofs.SlLaysM.n6 Tryz.prog Tryz.sort79_ren:={
 mixed:=by kernel_rfl
 f6:=⟨Tryz.f79.name,by decide,Tryz.func79.trans (au some (by kernel_rfl))⟩
 f8:=Tryz.func124.trans (au some (by kernel_rfl))
 f9:=⟨Tryz.f123.name,by decide,Tryz.func123.trans (au some (by kernel_rfl))⟩
 f19:=Tryz.func169.trans (au some (by kernel_rfl))
 f20:=Tryz.func170.trans (au some (by kernel_rfl))
 f21:=⟨Tryz.f160.name,by decide,Tryz.func160.trans (au some (by kernel_rfl))⟩
 f22:=⟨Tryz.f161.name,by decide,Tryz.func161.trans (au some (by kernel_rfl))⟩
 f23:=⟨Tryz.f162.name,by decide,Tryz.func162.trans (au some (by kernel_rfl))⟩
 f24:=⟨Tryz.f163.name,by decide,Tryz.func163.trans (au some (by kernel_rfl))⟩
 f25:=⟨Tryz.f164.name,by decide,Tryz.func164.trans (au some (by kernel_rfl))⟩
 f26:=⟨Tryz.f165.name,by decide,Tryz.func165.trans (au some (by kernel_rfl))⟩
 f27:=⟨Tryz.f166.name,by decide,Tryz.func166.trans (au some (by kernel_rfl))⟩
 f28:=⟨Tryz.f167.name,by decide,Tryz.func167.trans (au some (by kernel_rfl))⟩
 f29:=⟨Tryz.f168.name,by decide,Tryz.func168.trans (au some (by kernel_rfl))⟩
 f31:=Tryz.func192.trans (au some (by kernel_rfl))
 f32:=Tryz.func193.trans (au some (by kernel_rfl))
 f36:=⟨Tryz.f191.name,by decide,Tryz.func191.trans (au some (by kernel_rfl))⟩
 f37:=⟨Tryz.f194.name,by decide,Tryz.func194.trans (au some (by kernel_rfl))⟩
 f38:=⟨Tryz.f195.name,by decide,Tryz.func195.trans (au some (by kernel_rfl))⟩
 f39:=⟨Tryz.f189.name,by decide,Tryz.func189.trans (au some (by kernel_rfl))⟩
 f41:=⟨Tryz.f228.name,by decide,Tryz.func228.trans (au some (by kernel_rfl))⟩
 t0:=Tryz.underlying0
 a0:=Tryz.isAgg0
 z0:=Tryz.sizeOf0
 v0:=Tryz.zeroValue0
 t3:=Tryz.underlying3
 a3:=Tryz.isAgg3
 z3:=Tryz.sizeOf3
 v3:=Tryz.zeroValue3
 t4:=Tryz.underlying4
 a4:=Tryz.isAgg4
 z4:=Tryz.sizeOf4
 v4:=Tryz.zeroValue4
 t5:=Tryz.underlying5
 a5:=Tryz.isAgg5
 z5:=Tryz.sizeOf5
 v5:=Tryz.zeroValue5
 t9:=Tryz.underlying9
 a9:=Tryz.isAgg9
 z9:=Tryz.sizeOf9
 v9:=Tryz.zeroValue9
 t26:=Tryz.underlying24
 a26:=Tryz.isAgg24
 z26:=Tryz.sizeOf24
 v26:=Tryz.zeroValue24
 t27:=Tryz.underlying24
 a27:=Tryz.isAgg24
 z27:=Tryz.sizeOf24
 v27:=Tryz.zeroValue24
 t29:=Tryz.underlying9
 a29:=Tryz.isAgg9
 z29:=Tryz.sizeOf9
 v29:=Tryz.zeroValue9
 t32:=Tryz.underlying151
 a32:=Tryz.isAgg151
 z32:=Tryz.sizeOf151
 v32:=Tryz.zeroValue151
 t35:=Tryz.underlying178
 a35:=Tryz.isAgg178
 z35:=Tryz.sizeOf178
 v35:=Tryz.zeroValue178
 t36:=Tryz.underlying179
 a36:=Tryz.isAgg179
 z36:=Tryz.sizeOf179
 v36:=Tryz.zeroValue179
 t41:=Tryz.underlying133
 a41:=Tryz.isAgg133
 z41:=Tryz.sizeOf133
 v41:=Tryz.zeroValue133
 t44:=Tryz.underlying186
 a44:=Tryz.isAgg186
 z44:=Tryz.sizeOf186
 v44:=Tryz.zeroValue186
 t46:=Tryz.underlying188
 a46:=Tryz.isAgg188
 z46:=Tryz.sizeOf188
 v46:=Tryz.zeroValue188
 t53:=Tryz.underlying210
 a53:=Tryz.isAgg210
 z53:=Tryz.sizeOf210
 v53:=Tryz.zeroValue210
 t57:=Tryz.underlying214
 a57:=Tryz.isAgg214
 z57:=Tryz.sizeOf214
 v57:=Tryz.zeroValue214
 t63:=Tryz.underlying240
 a63:=Tryz.isAgg240
 z63:=Tryz.sizeOf240
 v63:=Tryz.zeroValue240
 t64:=Tryz.underlying241
 a64:=Tryz.isAgg241
 z64:=Tryz.sizeOf241
 v64:=Tryz.zeroValue241 }
def Tryz.sort153_ren:Go.Shelf.Ren:=⟨fun | 6=>153 | 15=>124 | 14=>188 | 28=>169 | 29=>170 | 20=>220 | 21=>221 | 22=>222 | 23=>223 | 24=>224 | 25=>225 | 26=>226 | 27=>227 | 46=>255 | 47=>192 | 48=>193 | 49=>256 | 50=>257 | 57=>296 | n=>n,fun | 22=>23 | 24=>51 | 25=>145 | 3=>3 | 39=>151 | 0=>0 | 53=>186 | 55=>188 | 4=>4 | 46=>179 | 45=>178 | 50=>133 | 5=>5 | 9=>9 | 66=>210 | 70=>214 | 76=>240 | 77=>241 | n=>n,fun | n=>n⟩
theorem Tryz.sort153:Go.Proofs.SlLaysF0.n6 Tryz.prog Tryz.sort153_ren:={
 mixed:=by kernel_rfl
 f6:=⟨Tryz.f153.name,by decide,Tryz.func153.trans (au some (by kernel_rfl))⟩
 f14:=⟨Tryz.f188.name,by decide,Tryz.func188.trans (au some (by kernel_rfl))⟩
 f15:=Tryz.func124.trans (au some (by kernel_rfl))
 f20:=⟨Tryz.f220.name,by decide,Tryz.func220.trans (au some (by kernel_rfl))⟩
 f21:=⟨Tryz.f221.name,by decide,Tryz.func221.trans (au some (by kernel_rfl))⟩
 f22:=⟨Tryz.f222.name,by decide,Tryz.func222.trans (au some (by kernel_rfl))⟩
 f23:=⟨Tryz.f223.name,by decide,Tryz.func223.trans (au some (by kernel_rfl))⟩
 f24:=⟨Tryz.f224.name,by decide,Tryz.func224.trans (au some (by kernel_rfl))⟩
 f25:=⟨Tryz.f225.name,by decide,Tryz.func225.trans (au some (by kernel_rfl))⟩
 f26:=⟨Tryz.f226.name,by decide,Tryz.func226.trans (au some (by kernel_rfl))⟩
 f27:=⟨Tryz.f227.name,by decide,Tryz.func227.trans (au some (by kernel_rfl))⟩
 f28:=Tryz.func169.trans (au some (by kernel_rfl))
 f29:=Tryz.func170.trans (au some (by kernel_rfl))
 f46:=⟨Tryz.f255.name,by decide,Tryz.func255.trans (au some (by kernel_rfl))⟩
 f47:=Tryz.func192.trans (au some (by kernel_rfl))
 f48:=Tryz.func193.trans (au some (by kernel_rfl))
 f49:=⟨Tryz.f256.name,by decide,Tryz.func256.trans (au some (by kernel_rfl))⟩
 f50:=⟨Tryz.f257.name,by decide,Tryz.func257.trans (au some (by kernel_rfl))⟩
 f57:=⟨Tryz.f296.name,by decide,Tryz.func296.trans (au some (by kernel_rfl))⟩
 t0:=Tryz.underlying0
 a0:=Tryz.isAgg0
 z0:=Tryz.sizeOf0
 v0:=Tryz.zeroValue0
 t3:=Tryz.underlying3
 a3:=Tryz.isAgg3
 z3:=Tryz.sizeOf3
 v3:=Tryz.zeroValue3
 t4:=Tryz.underlying4
 a4:=Tryz.isAgg4
 z4:=Tryz.sizeOf4
 v4:=Tryz.zeroValue4
 t5:=Tryz.underlying5
 a5:=Tryz.isAgg5
 z5:=Tryz.sizeOf5
 v5:=Tryz.zeroValue5
 t9:=Tryz.underlying9
 a9:=Tryz.isAgg9
 z9:=Tryz.sizeOf9
 v9:=Tryz.zeroValue9
 t22:=Tryz.underlying23
 a22:=Tryz.isAgg23
 z22:=Tryz.sizeOf23
 v22:=Tryz.zeroValue23
 t25:=Tryz.underlying145
 a25:=Tryz.isAgg145
 z25:=Tryz.sizeOf145
 v25:=Tryz.zeroValue145
 t39:=Tryz.underlying151
 a39:=Tryz.isAgg151
 z39:=Tryz.sizeOf151
 v39:=Tryz.zeroValue151
 t45:=Tryz.underlying178
 a45:=Tryz.isAgg178
 z45:=Tryz.sizeOf178
 v45:=Tryz.zeroValue178
 t46:=Tryz.underlying179
 a46:=Tryz.isAgg179
 z46:=Tryz.sizeOf179
 v46:=Tryz.zeroValue179
 t50:=Tryz.underlying133
 a50:=Tryz.isAgg133
 z50:=Tryz.sizeOf133
 v50:=Tryz.zeroValue133
 t53:=Tryz.underlying186
 a53:=Tryz.isAgg186
 z53:=Tryz.sizeOf186
 v53:=Tryz.zeroValue186
 t55:=Tryz.underlying188
 a55:=Tryz.isAgg188
 z55:=Tryz.sizeOf188
 v55:=Tryz.zeroValue188
 t66:=Tryz.underlying210
 a66:=Tryz.isAgg210
 z66:=Tryz.sizeOf210
 v66:=Tryz.zeroValue210
 t70:=Tryz.underlying214
 a70:=Tryz.isAgg214
 z70:=Tryz.sizeOf214
 v70:=Tryz.zeroValue214
 t76:=Tryz.underlying240
 a76:=Tryz.isAgg240
 z76:=Tryz.sizeOf240
 v76:=Tryz.zeroValue240
 t77:=Tryz.underlying241
 a77:=Tryz.isAgg241
 z77:=Tryz.sizeOf241
 v77:=Tryz.zeroValue241 }
end Go.Proofs
end
section
namespace Go.AxC
open Go Go.Proofs Go.Ax Go.RowKit Go.Maps Go.Sort Go.Shelf
def Co (s t:ByteArray):Int:=match Op.bytesLess s.toList t.toList with
 |true=>-1
 |false=>match Op.bytesLess t.toList s.toList with
  |true=>1
  |false=>0
def C_ (x y:Bool × ByteArray):Int:=match x.1,y.1 with
 |true,false=>1
 |false,true=>-1
 |_,_=>Co x.2 y.2
theorem SS (s:ByteArray) (w:World):Calls Tryz.prog 189 #[.string s] w λe w'=>e=.returned (.bool false)/\w'=w:=by
 go_enter Tryz.func189,Tryz.ntmps189
 go_wp2
 go_ret
 exact⟨rfl,rfl⟩
theorem B7:∀a b:List UInt8,(!Op.bytesLess a b && !(a==b))=Op.bytesLess b a
 | [],[]=>by decide
 | [],b::y=>by simp[Op.bytesLess]
 |a::x,[]=>by simp[Op.bytesLess]
 |a::x,b::y=>by
  have ih:=B7 x y
  simp only[Op.bytesLess,List.cons_beq_cons]
  rcases jq a.toNat b.toNat with h | h | h
  ·have h1:a<b:=nq.2 h
   have h2:¬ b<a:=λe=>by have:=nq.1 e;omega
   have h3:¬ b=a:=λe=>by subst e;omega
   simp[h1,h2,h3]
  ·have h0:a=b:=UInt8.toNat_inj.1 h
   subst h0
   have h2:¬ a<a:=λe=>by have:=nq.1 e;omega
   simp only[h2,decide_false,BEq.rfl,iz,Bool.false_or]
   exact ih
  ·have h1:b<a:=nq.2 h
   have h2:¬ a<b:=λe=>by have:=nq.1 e;omega
   have h3:¬ a=b:=λe=>by subst e;omega
   simp[h1,h2,h3]
theorem MO (s t:ByteArray) (w:World):(binOp .gtr 9 (.string s) (.string t)).run Tryz.prog w=.ok (.bool (Op.bytesLess t.toList s.toList)) w:=by
 simp only[binOp]
 simp only[Op.stringOp,Bool.not_or,B7]
 rfl
theorem NI (s t:ByteArray) (w:World):Calls Tryz.prog 155 #[.string s,.string t] w λe w'=>e=.returned (.int .i64 (Co s t))/\w'=w:=by
 have hg:=MO s t w
 go_enter Tryz.func155,Tryz.ntmps155
 go_wp2_with (go_at_call 189;refine (SS _ _).mono ?_;rintro e w' ⟨rfl,rfl⟩)
 all_goals go_ret
 all_goals refine⟨?_,rfl⟩
 all_goals simp[Co, *]
theorem Sb (x y : Bool × ByteArray) (w : World) : Calls Tryz.prog 118 #[qY x, qY y] w fun e w' => e = .returned (.int .i64 (C_ x y)) /\ ∃ os, w' = grow w os := by
  obtain ⟨x1, x2⟩ := x
  obtain ⟨y1, y2⟩ := y
  suffices h : Calls Tryz.prog 118 #[.agg #[.bool x1, .string x2], .agg #[.bool y1, .string y2]] w fun e w' => e = .returned (.int .i64 (C_ (x1, x2) (y1, y2))) /\ w' = grow w #[.cells #[.bool x1, .string x2] 51, .cells #[.bool y1, .string y2] 51] from h.mono fun e w' ⟨h1, h2⟩ => ⟨h1, _, h2⟩
  have hw : grow w #[.cells #[.bool x1, .string x2] 51, .cells #[.bool y1, .string y2] 51] = (w.alloc (.cells #[.bool x1, .string x2] 51)).alloc (.cells #[.bool y1, .string y2] 51) := by
    simp only [alloc_eq_grow, grow_grow]; rfl
  rw [hw]
  clear hw
  cases x1 <;> cases y1 <;>
  (go_enter Tryz.func118, Tryz.ntmps118
   go_wp2_with (go_at_call 155; refine (NI _ _ _).mono ?_; rintro e w' ⟨rfl, rfl⟩)
   go_ret
   exact ⟨rfl, rfl⟩)
end Go.AxC
end
section
namespace Go.AxC
open Go Go.Proofs Go.Ax Go.RowKit Go.Sort
section
structure RB {α:Type} (lt:α->α->Bool):Prop where
 irrefl:∀x,lt x x=false
 trans:∀x y z,lt x y=true->lt y z=true->lt x z=true
 total:∀x y,lt x y=false->lt y x=false->x=y
section
variable {α:Type}{lt:α->α->Bool}
theorem RB.asymm (h:RB lt) {x y:α}(hx:lt x y=true):lt y x=false:=by
 cases hy:lt y x with
 |false=>rfl
 |true=>have:=h.trans _ _ _ hx hy;rw[h.irrefl]at this;cases this
theorem RB.swo (h:RB lt):SWO lt:=by
 refine⟨h.irrefl,h.trans,λx y z h1 h2=>?_⟩
 cases h3:lt x z with
 |false=>rfl
 |true=>
  cases h4:lt z y with
  |true=>have:=h.trans _ _ _ h3 h4;rw[h1]at this;cases this
  |false=>
   have:=h.total _ _ h2 h4
   subst this
   rw[h1]at h3;cases h3
def BG (lt:α->α->Bool) (x:α):List α->List α
 | []=>[x]
 |y::r=>if lt x y then x::y::r else y::BG lt x r
def iI (lt:α->α->Bool) (l:List α):List α:=l.foldl (λacc x=>BG lt x acc) []
def T4 (lt:α->α->Bool) (l:List α):Prop:=l.Pairwise λx y=>lt y x=false
theorem AF (x:α):∀l,(BG lt x l).Perm (x::l)
 | []=>.refl _
 |y::r=>by
  simp only[BG]
  split
  ·exact .refl _
  ·exact ((AF x r).cons y).trans (.swap x y r)
theorem Ik (h:RB lt) (x:α):∀l,T4 lt l->T4 lt (BG lt x l)
 | [],_=>by simp[BG,T4]
 |y::r,hs=>by
  rw[T4,jw]at hs
  obtain⟨h1,h2⟩:=hs
  simp only[BG]
  split
  ·rename_i hxy
   refine jw.2 ⟨λz hz=>?_,jw.2 ⟨h1,h2⟩⟩
   rcases By.1 hz with rfl | hz
   ·exact h.asymm hxy
   ·cases hzx:lt z x with
    |false=>rfl
    |true=>have:=h.trans _ _ _ hzx hxy;rw[h1 z hz]at this;cases this
  ·rename_i hxy
   refine jw.2 ⟨λz hz=>?_,Ik h x r h2⟩
   rcases By.1 ((AF x r).mem_iff.1 hz) with rfl | hz
   ·simpa using hxy
   ·exact h1 z hz
theorem Dp:∀(l acc:List α),(l.foldl (λacc x=>BG lt x acc) acc).Perm (acc++l)
 | [],acc=>by simp
 |x::l,acc=>by
  refine (Dp l _).trans ?_
  refine ((AF x acc).append_right l).trans ?_
  exact jl.symm
theorem lE (l:List α):(iI lt l).Perm l:=by
 have:=Dp (lt:=lt) l []
 rw[cq]at this
 exact this
theorem Ff (h:RB lt):∀(l acc:List α),T4 lt acc->T4 lt (l.foldl (λacc x=>BG lt x acc) acc)
 | [],acc,ha=>ha
 |x::l,acc,ha=>Ff h l _ (Ik h x acc ha)
theorem vW (h:RB lt) (l:List α):T4 lt (iI lt l):=Ff h l [] List.Pairwise.nil
theorem UI (h:RB lt) {l l':List α}(hp:l.Perm l')(h1:T4 lt l)(h2:T4 lt l'):l=l':=
 List.Perm.eq_of_pairwise (le:=λx y=>lt y x=false) (λa b _ _ ha hb=>h.total _ _ hb ha) h1 h2 hp
theorem Hj (h:RB lt) {l l':List α}(hp:l.Perm l'):iI lt l=iI lt l':=UI h ((lE l).trans (hp.trans (lE l').symm)) (vW h l) (vW h l')
theorem Ij {lk:List V->List V->Bool} (abs:α->List V) (x:α):∀l,Df lk (abs x) (l.map abs)=(BG (λx y=>lk (abs x) (abs y)) x l).map abs
 | []=>rfl
 |y::r=>by
  simp only[bj,Df,BG]
  split
  ·rfl
  ·simp only[bj,Ij abs x r]
theorem Fe {lk:List V->List V->Bool} (abs:α->List V):∀(l acc:List α),(l.map abs).foldl (λacc x=>Df lk x acc) (acc.map abs)=(l.foldl (λacc x=>BG (λx y=>lk (abs x) (abs y)) x acc) acc).map abs
 | [],_=>rfl
 |x::l,acc=>by
  simp only[bj,lj,Ij]
  exact Fe abs l _
theorem Ai {lk:List V->List V->Bool} (abs:α->List V) (l:List α):lP lk (l.map abs)=(iI (λx y=>lk (abs x) (abs y)) l).map abs:=Fe abs l []
end
def oM (x:ByteArray):List V:=[.str (Ax.bytes x)]
def AZ (x:Bool × ByteArray):List V:=[.bool x.1,.str (Ax.bytes x.2)]
def D_ (x y:ByteArray):Bool:=strLt (oM x) (oM y)
def Lw (x y:Bool × ByteArray):Bool:=uY (AZ x) (AZ y)
theorem Bh (a:List UInt8):Op.bytesLess a a=false:=by
 have:=B7 a a
 simpa using this.symm
theorem yB (a b c:List UInt8)(h1:Op.bytesLess a b=true)(h2:Op.bytesLess b c=true):Op.bytesLess a c=true:=by
 rw[bytesLess_eq]at *
 simp only[IT]at *
 exact List.lt_trans h1 h2
theorem yC (a b:List UInt8)(h1:Op.bytesLess a b=false)(h2:Op.bytesLess b a=false):a=b:=by
 have:=B7 a b
 rw[h1,h2]at this
 simpa using this
theorem toList_data (x:ByteArray):x.toList=x.data.toList:=by rw[ByteArray.toList_eq]
theorem C5 (x y:ByteArray):D_ x y=Op.bytesLess x.data.toList y.data.toList:=by
 show slt (Ax.bytes x) (Ax.bytes y)=_
 exact EB _ _
theorem Nt {x y:ByteArray}(h:x.data.toList=y.data.toList):x=y:=by
 cases x;cases y
 simp only[ByteArray.mk.injEq]
 exact Array.toList_inj.1 h
theorem Ox:RB D_:=by
 refine⟨λx=>?_,λx y z h1 h2=>?_,λx y h1 h2=>?_⟩
 ·rw[C5];exact Bh _
 ·rw[C5]at *;exact yB _ _ _ h1 h2
 ·rw[C5]at *;exact Nt (yC _ _ h1 h2)
theorem Gl (x y:Bool × ByteArray):Lw x y=match x.1,y.1 with
  |false,true=>true
  |true,false=>false
  |_,_=>D_ x.2 y.2:=by
 obtain⟨a,x⟩:=x
 obtain⟨b,y⟩:=y
 cases a <;> cases b <;> rfl
theorem Jy:RB Lw:=by
 refine⟨λx=>?_,λx y z h1 h2=>?_,λx y h1 h2=>?_⟩
 ·rw[Gl];obtain⟨a,x⟩:=x;cases a <;> exact Ox.irrefl _
 ·rw[Gl]at *
  obtain⟨a,x⟩:=x
  obtain⟨b,y⟩:=y
  obtain⟨c,z⟩:=z
  cases a <;> cases b <;> cases c <;> dsimp only at * <;> first | rfl | exact Ox.trans _ _ _ h1 h2 | (cases h1;done) | (cases h2;done)
 ·rw[Gl]at *
  obtain⟨a,x⟩:=x
  obtain⟨b,y⟩:=y
  cases a <;> cases b <;> dsimp only at * <;> first | (cases h1;done) | (cases h2;done) | (have:=Ox.total _ _ h1 h2;subst this;rfl)
theorem C6:ltOf C_=Lw:=by
 funext x y
 rw[Gl]
 obtain⟨a,x⟩:=x
 obtain⟨b,y⟩:=y
 have hs:decide (Co x y<0)=D_ x y:=by
  rw[C5]
  simp only[Co,toList_data]
  cases Op.bytesLess x.data.toList y.data.toList <;> cases Op.bytesLess y.data.toList x.data.toList <;> rfl
 cases a <;> cases b <;> first | rfl | exact hs
theorem Be (ss:List ByteArray):(ss.map λx=>x.data.toList).mergeSort (λx y=>decide (x<=y))=(iI D_ ss).map λx=>x.data.toList:=by
 have e:(λx y:List UInt8=>decide (x<=y))=λx y=>!Op.bytesLess y x:=by
  funext x y
  rw[bytesLess_eq]
  simp only[<- decide_not]
  congr 1
 rw[e]
 refine List.Perm.eq_of_pairwise (le:=λx y=>Op.bytesLess y x=false) (λa b _ _ ha hb=>yC _ _ hb ha) ?_ ?_ ?_
 ·have:=List.pairwise_mergeSort (le:=λx y=>!Op.bytesLess y x) (λa b c h1 h2=>by
   simp only[fm]at *
   cases h:Op.bytesLess c a with
   |false=>rfl
   |true=>
    cases h3:Op.bytesLess b c with
    |true=>have:=yB _ _ _ h3 h;rw[h1]at this;cases this
    |false=>have:=yC _ _ h3 h2;subst this;rw[h1]at h;cases h) (λa b=>by
   cases h:Op.bytesLess b a with
   |false=>simp
   |true=>
    cases h2:Op.bytesLess a b with
    |false=>simp
    |true=>have:=yB _ _ _ h h2;rw[Bh]at this;cases this) (ss.map λx=>x.data.toList)
  exact this.imp (by simp)
 ·rw[List.pairwise_map]
  have:=vW Ox ss
  exact this.imp (λ{a b} h=>by rw[C5]at h;exact h)
 ·exact (List.mergeSort_perm _ _).trans ((lE ss).symm.map _)
theorem HT (ss:List (Bool × ByteArray)):ss.mergeSort (λx y=>!Lw y x)=iI Lw ss:=by
 refine List.Perm.eq_of_pairwise (le:=λx y=>Lw y x=false) (λa b _ _ ha hb=>Jy.total _ _ hb ha) ?_ (vW Jy ss) ((List.mergeSort_perm _ _).trans (lE ss).symm)
 have:=List.pairwise_mergeSort (le:=λx y=>!Lw y x) (λa b c h1 h2=>by
   simp only[fm]at *
   exact Jy.swo.ntrans _ _ _ h2 h1) (λa b=>by
   cases h:Lw b a with
   |false=>simp
   |true=>simp[Jy.asymm h]) ss
 exact this.imp (by simp)
end
end Go.AxC
end
section
namespace Go.AxC
open Go Go.Proofs Go.Ax Go.RowKit Go.Maps Go.Sort Go.Shelf
theorem Bo (x:ByteArray):encStr x.data.toList=encS x:=by
 cases x;simp[encStr,encS]
theorem AL (ss:List ByteArray):ss.flatMap pX=(ss.map λx=>x.data.toList).map encStr:=by
 induction ss with
 |nil=>rfl
 |cons x r ih=>simp only[j7,bj,ih,Bo];rfl
theorem RZ (w:World) (g:Nat) (lb:Array Value) (eg:∀args w,(callFunc g args).run Tryz.prog w=.ok (.enter g args) w)
  (S:List ByteArray->Prop) (N:Nat)(hN:N<=maxLen)(hNb:N*16<=140737488355328)(hSN:∀ss,S ss->ss.length<=N)(hseq:SeqStopsK Fence.wide 2 Tryz.prog g lb (λx=>#[encS x]) (Ob w.heap.size) S (λ_=>True) N w) :
  Calls Tryz.prog 94 #[.func (.func g) #[] lb] w λe w'=>∃(v:Value) (ss:List ByteArray),e=.returned v/\S ss /\
   w'.ownsRow w.heap.size 9 1 v ss.length ((iI D_ ss).flatMap pX)/\(v=.slice none 0 0 ↔ ss=[])/\Below w.heap.size w w':=by
 have hC:=callsIn_wide.1 (QF Fence.wide 4 trivial trivial rfl (by omega) g lb trivial eg S N hN hNb w hseq)
 go_enter Tryz.func94,Tryz.ntmps94
 go_wp2_with (go_at_call 130;refine hC.mono ?_;rintro e W ⟨v,ss,rfl,hS,hrow,hnil,hb⟩)
 rcases hrow.2 with⟨rfl,hz⟩ | ⟨gb,cap,cur,rfl,hbase,hgb,r1,r2,r3,r4⟩
 ·have hss:ss=[]:=List.eq_nil_of_length_eq_zero hz
  subst hss
  have hN:=AnyM.slices_Sort_string_none Tryz.sort79 none 0 W
  go_wp2_with (go_at_call 79;refine hN.mono ?_;rintro e w' ⟨rfl,rfl⟩)
  go_ret
  exact⟨.slice none 0 0,[],rfl,hS,by simpa [iI]using hrow,by simp,hb⟩
 ·have hH:Holds encStr W gb 0 (ss.map λx=>x.data.toList).toArray:=holds_of_block hgb (by rw[<- AL];simpa using r4)
  have hgl:gb<W.heap.size:=(bh.1 hgb).1
  have hsz:(ss.map λx=>x.data.toList).length<4611686018427387904:=by have:=hSN ss hS;simp;omega
  have cS:=AnyM.slices_Sort_string Tryz.sort79 gb 0 cap (ss.map λx=>x.data.toList) W hH hgl hsz
  rw[az,Be]at cS
  go_wp2_with (go_at_call 79;refine cS.mono ?_;rintro e w' ⟨rfl,nn,os,rfl⟩)
  go_ret
  refine⟨_,ss,rfl,hS,?_,hnil,hb.grown (grownBy_sorted _) hb.size (λj hj=>by cases hj;exact hbase)⟩
  have hp:=(lE (lt:=D_) ss).length_eq
  have:=ownsRow_sorted (base:=w.heap.size) (ss:=ss.map λx=>x.data.toList) (ts:=(iI D_ ss).map λx=>x.data.toList) (n:=nn) (os:=os) (by simp[hp]) hbase hgb (by simpa using r1) r2 r3
  rw[AL]
  simpa using this
theorem pU:∀(l:List (Bool × ByteArray)) (t:Nat),t<l.length*2->(l.flatMap fC)[t]?=some (fC l[t / 2]!)[t % 2]!
 | [],t,h=>absurd h (by simp)
 |x::r,0,_=>rfl
 |x::r,1,_=>rfl
 |x::r,t+2,h=>by
  have ih:=pU r t (by simp at h;omega)
  have e1:(t+2) / 2=t / 2+1:=by omega
  have e2:(t+2) % 2=t % 2:=by omega
  rw[e1,e2]
  simpa [fC]using ih
theorem pT:∀l:List (Bool × ByteArray),(l.flatMap fC).length=l.length*2
 | []=>rfl
 |x::r=>by
  have:=pT r
  simp only[j7,an,aa,this]
  simp[fC]
  omega
theorem yF (d:Array (Bool × ByteArray)):(flatK fC 2 d).toList=d.toList.flatMap fC:=by
 apply jn
 intro t
 by_cases ht:t<d.size*2
 ·rw[pU _ _ (by simpa using ht),Array.getElem?_toList]
  have:=get_flatK fC 2 d t ht
  have hs:t<(flatK fC 2 d).size:=by simpa using ht
  rw[getElem!_pos (flatK fC 2 d) t hs]at this
  have h2:t / 2<d.size:=by omega
  have e:d.toList[t / 2]! = d[t / 2]!:=by rw[getElem!_pos d (t / 2) h2,getElem!_pos d.toList (t / 2) (by simpa using h2)];simp
  rw[ec hs,this,e]
 ·have h1:(d.toList.flatMap fC).length<=t:=by
   rw[pT,ij]
   exact oo ht
  have h2:(flatK fC 2 d).toList.length<=t:=by
   rw[ij,size_flatK]
   exact oo ht
  rw[gu h1,gu h2]
theorem GA {w:World}{g:Nat}{cur:Array Value}{e:TypeId}{Fa:Array Value}(hb:w.heap[g]?=some (.cells cur e (0,0)))(ht:cur.toList.take Fa.size=Fa.toList):Holds id w g 0 Fa:=by
 intro j hj
 refine⟨?_,by simp[World.frozen?,hb]⟩
 have h1:(cur.toList.take Fa.size)[j]?=Fa.toList[j]?:=by rw[ht]
 rw[gq hj]at h1
 simp only[World.cell?,hb,cz]
 simp only[jj,ai,aq]
 rw[<- Array.getElem?_toList,h1]
 simp[hj]
theorem GB {w:World}{g n:Nat}{os:Array Obj}{cur:Array Value}{e:TypeId} (d:Array Value)(hb:w.heap[g]?=some (.cells cur e (0,0))) :
  (grow (putRow id (Sort.ahead w n) g 0 d) os).heap[g]?=some (.cells (putCells id 0 d cur) e (0,0)):=by
 have hg:g<w.heap.size:=(bh.1 hb).1
 rw[heap_grow_old _ _ (by simpa using hg)]
 simp[putRow,mapBlock,Sort.ahead,Array.getElem?_modify,hb,onCells]
theorem BI {w:World}{g n:Nat}{os:Array Obj} (d:Array Value):w.grownBy (grow (putRow id (Sort.ahead w n) g 0 d) os) (some g):=by
 refine⟨rfl,rfl,rfl,by simp,λk hk hne=>?_⟩
 rw[heap_grow_old _ _ (by simpa using hk)]
 have:g≠k:=λe=>hne (by rw[e])
 simp[putRow,mapBlock,Sort.ahead,Array.getElem?_modify,this]
theorem Cn (cur:Array Value) (ts:Array Value)(h:ts.size<=cur.size):(putCells id 0 ts cur).toList.take ts.size=ts.toList:=by
 apply jn
 intro j
 by_cases hj:j<ts.size
 ·rw[gq hj,Array.getElem?_toList]
  simp[putCells,hj,show j<cur.size by omega]
 ·rw[List.getElem?_take_eq_none (by omega),gu (by simp;omega)]
theorem R1 (w:World) (g:Nat) (lb:Array Value) (eg:∀args w,(callFunc g args).run Tryz.prog w=.ok (.enter g args) w)
  (S:List (Bool × ByteArray)->Prop) (N:Nat)(hN:N<=maxLen)(hNb:N*24<=140737488355328)(hSN:∀ss,S ss->ss.length<=N)(hseq:SeqStopsK Fence.wide 2 Tryz.prog g lb (λx=>#[qY x]) (Ob w.heap.size) S (λ_=>True) N w) :
  Calls Tryz.prog 116 #[.func (.func g) #[] lb,.func (.func 118) #[] #[]] w λe w'=>∃(v:Value) (ss:List (Bool × ByteArray)),e=.returned v/\S ss /\
   w'.ownsRow w.heap.size 51 2 v ss.length ((iI Lw ss).flatMap fC)/\(v=.slice none 0 0 ↔ ss=[])/\Below w.heap.size w w':=by
 have hC:=callsIn_wide.1 (QG Fence.wide 4 trivial trivial rfl (by omega) g lb trivial eg S N hN hNb w hseq)
 have eo:∀args w,(callFunc 118 args).run Tryz.prog w=.ok (.enter 118 args) w:=enters_of Tryz.func118 (by kernel_rfl) rfl
 go_enter Tryz.func116,Tryz.ntmps116
 go_wp2_with (go_at_call 152;refine hC.mono ?_;rintro e W ⟨v,ss,rfl,hS,hrow,hnil,hb⟩)
 rcases hrow.2 with⟨rfl,hz⟩ | ⟨gb,cap,cur,rfl,hbase,hgb,r1,r2,r3,r4⟩
 ·have hss:ss=[]:=List.eq_nil_of_length_eq_zero hz
  subst hss
  have hN:=AnyF.slices_SortFunc_none Tryz.sort153 none 0 (.func (.func 118) #[] #[]) W
  go_wp2_with (go_at_call 153;refine hN.mono ?_;rintro e w' ⟨rfl,rfl⟩)
  go_ret
  exact⟨.slice none 0 0,[],rfl,hS,by simpa [iI]using hrow,by simp,hb⟩
 ·have hH:HoldsK fC 2 W gb 0 ss.toArray:=GA hgb (by rw[yF];simpa using r4)
  have hgl:gb<W.heap.size:=(bh.1 hgb).1
  have hsz:ss.toArray.size<4611686018427387904:=by have:=hSN ss hS;simp;omega
  have hcmp:CmpLays Tryz.prog 118 #[] fC 2 C_ gb 0 ss.toArray.size W:=λm os dk _ x y=>
   (Sb x y (sortWorldK fC 2 W gb 0 m dk os)).mono λe w' ⟨h1,os',h2⟩=>⟨h1,0,os',h2⟩
  have cS:=AnyQ.slices_SortFunc_total Tryz.sort153 2 Tryz.isAgg51 Tryz.sizeOf51 fC (λ_=>rfl) (λx v hv=>by simp[fC]at hv;rcases hv with rfl | rfl <;> rfl) C_ (by rw[C6];exact Jy.swo)
   118 #[] gb 0 cap ss.toArray W eo hcmp hH hgl hsz (by rw[C6];exact Jy.total)
  rw[C6,l8,List.toList_toArray,HT]at cS
  go_wp2_with (go_at_call 153;refine cS.mono ?_;rintro e w' ⟨rfl,nn,os,rfl⟩)
  go_ret
  have hp:=(lE (lt:=Lw) ss).length_eq
  have hsF:(flatK fC 2 (iI Lw ss).toArray).size=ss.length*2:=by simp[hp]
  refine⟨_,ss,rfl,hS,⟨?_,.inr ⟨gb,cap,_,rfl,hbase,GB _ hgb,r1,r2,?_,?_⟩⟩,hnil,hb.grown (BI _) hb.size (λj hj=>by cases hj;exact hbase)⟩
  ·rw[<- yF (iI Lw ss).toArray]
   simpa using hsF
  ·simpa [putCells]using r3
  ·have hle:ss.length*2<=cap*2:=gr _ r1
   have:=Cn cur (flatK fC 2 (iI Lw ss).toArray) (by rw[hsF,r3];exact hle)
   rw[hsF,yF]at this
   simpa using this
end Go.AxC
end
section
namespace Go.Ax
open Go Go.Proofs
section
def Cx.kS (c:Cx) (w:World) (gb:Nat) (o:O) (n z:Nat):Cx:=
 { c with w:=w,Z:=c.Z++[o],blk:=λb=>if b=c.Z.length then gb else c.blk b,tot:=λb=>if b=c.Z.length then n else c.tot b,yL:=λb=>if b=c.Z.length then z else c.yL b }
section
variable {E:Env}{c:Cx}
theorem AY (h:SR E c) {w:World}{gb n z:Nat}{o:O}(hb:Go.RowKit.Below c.w.heap.size c.w w)(hg:c.w.heap.size<=gb):Ext c (c.kS w gb o n z) where
 size:=hb.size
 keep:=λk hk ho=>by
  refine⟨hb.block k hk,λ⟨b,hl,hbk⟩=>?_⟩
  rcases h_ hl with hl | ⟨rfl,_⟩
  ·refine ho ⟨b,hl,?_⟩
   have:=eA hl
   simpa [Cx.kS,e8 this]using hbk
  ·simp[Cx.kS]at hbk;omega
 len:=by simp[Cx.kS]
 blk:=λb hb=>by simp[Cx.kS,e8 hb]
 tot:=λb hb=>by simp[Cx.kS,e8 hb]
 yL:=λb hb=>by simp[Cx.kS,e8 hb]
 nC:=rfl
 os:=hb.os
 tape:=hb.tape
 output:=hb.output
theorem Ry (h:SR E c) {w:World}{gb n z:Nat}{o:O}(hb:Go.RowKit.Below c.w.heap.size c.w w)(hg:c.w.heap.size<=gb)(ho:vQ E (c.kS w gb o n z) c.Z.length o):SR E (c.kS w gb o n z) where
 inj:=λb b' hl hl' e=>by
  rcases h_ hl with hl | ⟨rfl,_⟩ <;> rcases h_ hl' with hl' | ⟨rfl,_⟩
  ·have:=eA hl;have:=eA hl'
   refine h.inj b b' hl hl' ?_
   simpa [Cx.kS,e8 (eA hl),e8 (eA hl')]using e
  ·have:=h.lt hl
   simp[Cx.kS,e8 (eA hl)]at e;omega
  ·have:=h.lt hl'
   simp[Cx.kS,e8 (eA hl')]at e;omega
  ·rfl
 obj:=λb o' hbo=>by
  by_cases hlt:b<c.Z.length
  ·have hb':c.Z[b]?=some o':=by simpa [Cx.kS,bq hlt]using hbo
   by_cases hl:live c.Z b
   ·refine (h.obj b o' hb').mono (AY h hb hg) hlt ?_
    exact hb.block _ (h.lt hl)
   ·cases o' with
    |dead=>exact True.intro
    |_=>exact (hl ⟨_,hb',rfl⟩).elim
  ·have:b=c.Z.length:=by
    have:=(AS.1 hbo).1
    simp[Cx.kS]at this;omega
   subst this
   simp[Cx.kS]at hbo
   subst hbo
   exact ho
 nC:=λb hl=>by
  rcases h_ hl with hl | ⟨rfl,_⟩
  ·have:=h.nC b hl
   simpa [Cx.kS,e8 (eA hl)]using this
  ·intro ha
   have:=h.iZ _ ha
   simp[Cx.kS]at this
   omega
 iZ:=λk hk=>by
  have:=h.iZ k hk
  have:=hb.size
  show k<w.heap.size
  omega
 gl:=pR (AY h hb hg) h.gl
theorem FB (h:SR E c) {w:World}(hb:Go.RowKit.Below c.w.heap.size c.w w) {t sz len:Nat}{i:Ty}(hi:E.ty t=some i)(hsz:i.size=sz) {v:Value}{xs:List Value}{cs:List V}(hrow:w.ownsRow c.w.heap.size t sz v len xs)(hv:v≠.slice none 0 0)
  (hl:cs.length=xs.length)(hok:cs.all V.aW=true)(hr:∀(c':Cx) (j:Nat) (a:V),cs[j]?=some a->∃x,xs[j]?=some x/\VR c' a x):jW E c (.sl c.Z.length 0 len none) (c.Z++[.cells t cs false]) v w:=by
 rcases hrow.2 with⟨e,_⟩ | ⟨gb,cap,cur,rfl,hbase,hgb,r1,r2,r3,r4⟩
 ·exact absurd e hv
 have hlen:=hrow.1
 have hcl:cs.length<=cur.size:=by rw[hl,hlen,r3];exact gr _ r1
 have hne:∀{α:Type} (x y:α),(if c.Z.length=c.Z.length then x else y)=x:=λx y=>b8 rfl
 refine⟨c.kS w gb (.cells t cs false) cur.size sz,rfl,rfl,AY h hb hbase,Ry h hb hbase ⟨cur,?_,?_,⟨i,hi,?_⟩,hcl,(λe=>by cases e),hok,λj a hj=>?_⟩,?_⟩
 ·show w.heap[if c.Z.length=c.Z.length then gb else _]?=_
  rw[hne];exact hgb
 ·show cur.size=if c.Z.length=c.Z.length then _ else _
  rw[hne]
 ·show (if c.Z.length=c.Z.length then sz else _)=_
  rw[hne,hsz]
 ·obtain⟨x,h1,h2⟩:=hr (c.kS w gb (.cells t cs false) cur.size sz) j a hj
  refine⟨x,?_,h2⟩
  have hjl:j<len*sz:=by rw[<- hlen];exact (AS.1 h1).1
  rw[<- r4,gq hjl,Array.getElem?_toList]at h1
  exact h1
 ·have:=VR.sl (c:=c.kS w gb (.cells t cs false) cur.size sz) c.Z.length 0 len none cap (by simp[Cx.kS]) r1 (λk e=>by cases e) (λ_=>by
   show 0+cap*(if c.Z.length=c.Z.length then sz else _)=if c.Z.length=c.Z.length then cur.size else _
   rw[hne,hne,r3,cz])
  have e:(c.kS w gb (.cells t cs false) cur.size sz).blk c.Z.length=gb:=b8 rfl
  rw[e]at this
  exact this
theorem FC (h:SR E c) {w:World}(hb:Go.RowKit.Below c.w.heap.size c.w w):jW E c .aB c.Z (.slice none 0 0) w:=by
 obtain⟨k1,k2⟩:=wI h (w:=w) hb.size (λk hk=>hb.block k hk) hb.os hb.tape hb.output
 exact⟨c.outer w,rfl,rfl,k1,k2,.inl .aB⟩
end
end
end Go.Ax
end
section
namespace Go.AxC
open Go Go.Proofs Go.Ax Go.RowKit Go.Maps Go.Sort Go.Shelf
set_option maxRecDepth 100000 in
theorem G4 (F:Fence) (n:Nat)(hF:F.fn 260)(hro:F.round=none)(hn:1<=n) (Bm:Nat) (p:Option Addr) (cap:Nat) (xs:List ByteArray) (w:World)(hBm:Bm<w.heap.size)(hx:xs.length<=1000000)
  (hm:w.cell? ⟨Bm,0,none⟩=some (.slice p xs.length cap))(hp:∀j x,xs[j]?=some x->∃blk off,p=some ⟨blk,off,none⟩/\w.cell? ⟨blk,off+j,none⟩=some (.string x)) :
  SeqStopsK F n Tryz.prog 260 #[.pointer (some ⟨Bm,0,none⟩)] (λx=>#[encS x]) (Ob w.heap.size) (λss=>ss=xs) (λ_=>True) xs.length w:=by
 intro l J Jx W hW hJ hJx hY h0
 replace hm:W.cell? ⟨Bm,0,none⟩=some (.slice p xs.length cap):=(hW.cell (p:=⟨Bm,0,none⟩) hBm).trans hm
 refine callsIn_of_wp Tryz.func260 rfl hF ?_ hro
 simp only[Tryz.ntmps260,l8,aa,bf,reduceAdd,reduceSub,jz,k8,mm,l9,cq,dy]
 gi_wp2
 gi_loopw [7] (λv7 wr=>∃i:Nat,v7=.int .i64 (i:Int)/\i<=xs.length/\J (xs.take i) wr/\Below w.heap.size w wr)
  (λv7 wr=>match v7 with | .int _ k=>xs.length-k.toNat | _=>0)
 case atStart=>
  exact⟨0,rfl,gz _,h0,hW⟩
 case round=>
  obtain⟨i,rfl,hi,hJi,hb⟩:=hrel
  by_cases hlt:i<xs.length
  ·have hii:((i:Int)<(xs.length:Int)):=by omega
   have hxi:xs[i]?=some xs[i]:=BY hlt
   obtain⟨blk,off,rfl,hc⟩:=hp i _ hxi
   have hc':wr.cell? ⟨blk,off+i,none⟩=some (.string xs[i]):=(hb.cell (p:=⟨blk,off+i,none⟩) (by
    unfold World.cell? at hc
    cases ho:w.heap[blk]? with
    |none=>simp[ho]at hc
    |some o=>exact (bh.1 ho).1)).trans hc
   obtain⟨fn,tmps,assign,body,hy,hR⟩:=hY (xs.take i) xs[i] wr hJi (by simp;omega)
   simp only[encS]at hy
   have htk:xs.take i++[xs[i]]=xs.take (i+1):=by simp
   have h63:IntKind.i64.wrap ((i:Int)+1)=(i:Int)+1:=by
    have:i+1<=1000000:=by omega
    simp only[IntKind.wrap,IntKind.bits,IntKind.signed]
    simp
    omega
   gi_wp2
   refine hR.mono ?_
   rintro e W3 (⟨rfl,hJ4,hk3⟩ | ⟨rfl,hJx3⟩)
   ·rw[htk]at hJ4
    gi_wp2
    go_roundw
    case rel=>exact⟨i+1,by rw[Int.natCast_add];rfl,by omega,hJ4,hb.trans hk3.2⟩
    case measure=>
     show xs.length-((i:Int)+1).toNat<xs.length-(i:Int).toNat
     omega
   ·gi_wp2
    refine bodyPost_ret (results_none rfl _ _ _) rfl ?_
    exact⟨⟨_,rfl⟩,.inr ⟨_,trivial,hJx3⟩⟩
  ·have hie:i=xs.length:=by omega
   subst hie
   gi_wp2
   go_end0
   exact⟨⟨_,rfl⟩,.inl ⟨xs,rfl,by simpa using hJi⟩⟩
end Go.AxC
end
section
namespace Go.AxC
open Go Go.Proofs Go.Ax Go.RowKit Go.Sort
section
section
variable {E:Env}{c:Cx}
theorem vL (hs:SR E c) {b t:Nat}{X:V}{ex:Bool}(hb:c.Z[b]?=some (.cells t [X] ex)):∃x,c.w.cell? ⟨c.blk b,0,none⟩=some x/\VR c X x/\c.blk b<c.w.heap.size:=by
 obtain⟨arr,h1,_,_,_,_,_,h2⟩:=hs.obj b _ hb
 obtain⟨x,h3,h4⟩:=h2 0 X rfl
 exact⟨x,by simp[World.cell?,h1,h3],h4,(bh.1 h1).1⟩
theorem PK (hs:SR E c) {X:V}{es:List (V × V)}(hX:(∃m,X=.mp m/\c.Z[m]?=some (.map es))\/∃g,X=.imp g es) {x:Value}(hv:VR c X x) :
  ∃blk en cl l,x=.map (some blk)/\c.w.heap[blk]?=some (.map en cl)/\WL en cl/\l.Perm en.toList/\iV c es l:=by
 rcases hX with⟨m,rfl,hm⟩ | ⟨g,rfl⟩
 ·obtain⟨en,cl,h1,h2,l,h3,h4⟩:=hs.obj m _ hm
  cases hv with
  |mp _ h=>exact⟨_,en,cl,l,rfl,h1,h2,h3,h4⟩
  |inl h=>cases h
 ·obtain⟨m,en,cl,l,hx,_,h1,h2,h3,h4⟩:=hv.s_
  exact⟨m,en,cl,l,hx,h1,h2,h3,h4.PL⟩
theorem rowS {I:Bool->Nat->Prop}{w:World}{k:V}{x:Value}(h:r_ w I k x)(hr:kU (rowOf k)=true):∃y,x=encS y/\rowOf k=oM y:=by
 cases h with
 |one h=>cases h with
  |str s=>exact⟨s,rfl,rfl⟩
  |_=>simp[rowOf,V.cells,kU]at hr
 |agg cs xs h=>
  match cs,hr with
  | [],hr=>simp[rowOf,V.cells,kU]at hr
  | [_],hr=>simp[rowOf,kU]at hr
  |_::_::_,hr=>simp[rowOf,V.cells,kU]at hr
theorem rE {I:Bool->Nat->Prop}{w:World}{k:V}{x:Value}(h:r_ w I k x)(hr:mX (rowOf k)=true):∃y,x=qY y/\rowOf k=AZ y:=by
 cases h with
 |one h=>cases h <;> simp[rowOf,V.cells,mX]at hr
 |agg cs xs h=>
  match cs,hr with
  | [],hr=>simp[rowOf,V.cells,mX]at hr
  | [_],hr=>simp[rowOf,mX]at hr
  | [a,b],hr=>
   cases h with
   |cons _ y _ ys h1 h2=>cases h2 with
    |cons _ z _ zs h3 h4=>
     cases h4
     cases h1 <;> first | (cases h3 <;> first | exact⟨(_,_),rfl,rfl⟩ | (simp[rowOf,V.cells,mX]at hr;done)) | (simp[rowOf,V.cells,mX]at hr;done)
  |_::_::_::_,hr=>simp[rowOf,V.cells,mX]at hr
theorem LL {α:Type}{enc:α->Value}{abs:α->List V}{p:List V->Bool}(hrow:∀{k:V}{x:Value},r_ c.w c.bF k x->p (rowOf k)=true->∃y,x=enc y/\rowOf k=abs y)
  {es:List (V × V)}{l:List MapEntry}(hm:iV c es l):allRows p (es.map λe=>rowOf e.1)=true->∃ys:List α,l.map (·.key)=ys.map enc/\(es.map λe=>rowOf e.1)=ys.map abs:=by
 induction hm with
 |nil=>exact λ_=>⟨[],rfl,rfl⟩
 |cons k v es e l hk hv hr ih=>
  intro h
  simp only[bj,allRows]at h
  split at h
  case h_2=>cases h
  rename_i h1
  obtain⟨y,e1,e2⟩:=hrow hk h1
  obtain⟨ys,e3,e4⟩:=ih h
  exact⟨y::ys,by simp[e1,e3],by simp[e2,e4]⟩
theorem Qu:∀zs:List ByteArray,(zs.map oM).flatten.length=(zs.flatMap pX).length/\(zs.map oM).flatten.all V.aW=true/\∀(c':Cx) (j:Nat) (a:V),(zs.map oM).flatten[j]?=some a->∃x,(zs.flatMap pX)[j]?=some x/\VR c' a x
 | []=>⟨rfl,rfl,λ_ j a h=>by simp at h⟩
 |z::zs=>by
  obtain⟨h1,h2,h3⟩:=Qu zs
  refine⟨by simp[oM,pX]at h1 ⊢;exact h1,by simp only[bj,da,my,h2];rfl,λc' j a h=>?_⟩
  match j,h with
  |0,h=>
   injection (show some (V.str (Ax.bytes z))=some a from h) with h
   subst h
   exact⟨.string z,rfl,.inl (.str z)⟩
  |j+1,h=>exact h3 c' j a h
theorem Uk:∀zs:List (Bool × ByteArray),(zs.map AZ).flatten.length=(zs.flatMap fC).length/\(zs.map AZ).flatten.all V.aW=true/\∀(c':Cx) (j:Nat) (a:V),(zs.map AZ).flatten[j]?=some a->∃x,(zs.flatMap fC)[j]?=some x/\VR c' a x
 | []=>⟨rfl,rfl,λ_ j a h=>by simp at h⟩
 |z::zs=>by
  obtain⟨h1,h2,h3⟩:=Uk zs
  refine⟨by simp only[bj,da,j7,an,h1];rfl,by simp only[bj,da,my,h2];rfl,λc' j a h=>?_⟩
  match j,h with
  |0,h=>
   injection (show some (V.bool z.1)=some a from h) with h
   subst h
   exact⟨.bool z.1,rfl,.inl (.bool _)⟩
  |1,h=>
   injection (show some (V.str (Ax.bytes z.2))=some a from h) with h
   subst h
   exact⟨.string z.2,rfl,.inl (.str z.2)⟩
  |j+2,h=>exact h3 c' j a h
end
theorem CQ {α:Type}{enc:α->Value} (dec:Value->α)(hd:∀x,dec (enc x)=x) {a b:List α}(h:(a.map enc).Perm (b.map enc)):a.Perm b:=by
 have:=h.map dec
 simpa [ku,Function.comp_def,hd]using this
def abo:Value->ByteArray
 | .string s=>s
 |_=>default
def decL:Value->Bool × ByteArray
 | .agg #[.bool b,.string s]=>(b,s)
 |_=>default
theorem yW {α:Type}{F:Fence}{n:Nat}{P:Program}{g:Nat}{lb:Array Value}{encs:α->Array Value}{Kp:World->World->Prop}{S S' Sp:List α->Prop}{N:Nat}{w:World}(h:SeqStopsK F n P g lb encs Kp S Sp N w)(hS:∀xs,S xs->S' xs):SeqStopsK F n P g lb encs Kp S' Sp N w:=
 λl J Jx W hW hJ hJx hY h0=>(h l J Jx W hW hJ hJx hY h0).mono λe W' ⟨h1,h2⟩=>⟨h1,h2.imp (λ⟨xs,a,b⟩=>⟨xs,hS xs a,b⟩) id⟩
end
section
section
variable {E:Env}{c:Cx}
theorem aa6 (hs:SR E c) {i:Ty}(hi:E.ty 9=some i)(h1:i.size=1) (g:Nat) (lb:Array Value) (eg:∀args w,(callFunc g args).run Tryz.prog w=.ok (.enter g args) w) (ys:List ByteArray)(hlen:ys.length<=1000000)
  (hseq:SeqStopsK Fence.wide 2 Tryz.prog g lb (λx=>#[encS x]) (Ob c.w.heap.size) (λss=>ss.Perm ys) (λ_=>True) ys.length c.w) :
  tP Tryz.prog 94 [.func (.func g) #[] lb] c.w λx w'=>(ys=[]->jW E c .aB c.Z x w')/\(ys≠[]->jW E c (.sl c.Z.length 0 ys.length none) (c.Z++[.cells 9 (lP strLt (ys.map oM)).flatten false]) x w'):=by
 refine .inl ⟨Tryz.call94 _ _,(RZ c.w g lb eg _ ys.length (by simp only[maxLen];omega) (by omega) (λss h=>Nat.le_of_eq h.length_eq) hseq).mono ?_⟩
 rintro e w' ⟨v,ss,rfl,hp,hrow,hnil,hb⟩
 have hl:=hp.length_eq
 refine⟨v,rfl,λh0=>?_,λh0=>?_⟩
 ·subst h0
  rw[hnil.2 (List.perm_nil.1 hp)]
  exact FC hs hb
 ·have hss:ss≠[]:=λe=>h0 (List.perm_nil.1 (by rw[e]at hp;exact hp.symm))
  have hv:v≠.slice none 0 0:=λe=>hss (hnil.1 e)
  rw[Hj Ox hp,hl]at hrow
  obtain⟨k1,k2,k3⟩:=Qu (iI D_ ys)
  rw[Ai oM]
  exact FB hs hb hi h1 hrow hv k1 k2 k3
theorem finL (hs:SR E c) {i:Ty}(hi:E.ty 51=some i)(h1:i.size=2) (g:Nat) (lb:Array Value) (eg:∀args w,(callFunc g args).run Tryz.prog w=.ok (.enter g args) w) (ys:List (Bool × ByteArray))(hlen:ys.length<=1000000)
  (hseq:SeqStopsK Fence.wide 2 Tryz.prog g lb (λx=>#[qY x]) (Ob c.w.heap.size) (λss=>ss.Perm ys) (λ_=>True) ys.length c.w) :
  tP Tryz.prog 116 [.func (.func g) #[] lb,.func (.func 118) #[] #[]] c.w λx w'=>(ys=[]->jW E c .aB c.Z x w')/\(ys≠[]->jW E c (.sl c.Z.length 0 ys.length none) (c.Z++[.cells 51 (lP uY (ys.map AZ)).flatten false]) x w'):=by
 refine .inl ⟨Tryz.call116 _ _,(R1 c.w g lb eg _ ys.length (by simp only[maxLen];omega) (by omega) (λss h=>Nat.le_of_eq h.length_eq) hseq).mono ?_⟩
 rintro e w' ⟨v,ss,rfl,hp,hrow,hnil,hb⟩
 have hl:=hp.length_eq
 refine⟨v,rfl,λh0=>?_,λh0=>?_⟩
 ·subst h0
  rw[hnil.2 (List.perm_nil.1 hp)]
  exact FC hs hb
 ·have hss:ss≠[]:=λe=>h0 (List.perm_nil.1 (by rw[e]at hp;exact hp.symm))
  have hv:v≠.slice none 0 0:=λe=>hss (hnil.1 e)
  rw[Hj Jy hp,hl]at hrow
  obtain⟨k1,k2,k3⟩:=Uk (iI Lw ys)
  rw[Ai AZ]
  exact FB hs hb hi h1 hrow hv k1 k2 k3
theorem Bk {t:Nat}{fk fv:List Nat}{ok:List V->Bool}{lt:List V->List V->Bool}{x:V}{Z σ':Sg}{v:V}(h:wH t fk fv ok lt x Z=some (v,σ')) :
  ∃rows,keysOf Z fk fv x=some rows/\allRows ok rows=true/\Nat.ble rows.length 1000000=true/\((rows=[]/\v=.aB/\σ'=Z)\/(rows≠[]/\v=.sl Z.length 0 rows.length none/\σ'=Z++[.cells t (lP lt rows).flatten false])):=by
 unfold wH at h
 split at h
 ·rename_i hk
  injection h with h;injection h with h1 h2
  exact⟨[],hk,rfl,rfl,.inl ⟨rfl,h1.symm,h2.symm⟩⟩
 ·rename_i l hne hk
  split at h
  case h_2=>cases h
  rename_i h3 h4
  injection h with h;injection h with h1 h2
  exact⟨l,hk,h3,h4,.inr ⟨λe=>hne e,h1.symm,h2.symm⟩⟩
 ·cases h
theorem kL {n:Nat}:∀{l:List Nat},HP n l=true->n∈l
 | [],h=>by cases h
 |a::r,h=>by
  simp only[HP]at h
  split at h
  ·rename_i e
   have e:=j6 e
   subst e
   exact IN ..
  ·exact No _ (kL h)
theorem Qt {f b:Nat}{x:Value}(hv:VR c (.fn f [] [.ref b 0]) x):x=.func (.func f) #[] #[.pointer (some ⟨c.blk b,0,none⟩)]:=by
 cases hv with
 |inl h=>cases h
 |fn _ _ _ xs ys ha hb=>
  cases ha
  cases hb with
  |cons _ y _ zs h1 h2=>
   cases h2
   obtain⟨e,_⟩:=h1.iN
   rw[e]
theorem xE {I:Bool->Nat->Prop}{w:World}:∀{xs:List (List V)}{blk off:Nat},eN w I 1 xs blk off->allRows kU xs=true->∃ys:List ByteArray,xs=ys.map oM/\∀j y,ys[j]?=some y->w.cell? ⟨blk,off+j,none⟩=some (.string y)
 | [],_,_,_,_=>⟨[],rfl,λj y h=>by simp at h⟩
 |r::xs,blk,off,h,hok=>by
  cases h with
  |cons _ _ hl hc hr=>
   simp only[allRows]at hok
   split at hok
   case h_2=>cases hok
   rename_i h1
   obtain⟨ys,e,hy⟩:=xE hr hok
   cases hc with
   |nil=>cases hl
   |cons v x cs h2 h3 h4=>
    cases h4 with
    |cons=>simp at hl
    |nil=>
     cases h3 <;> first | (simp[kU]at h1;done) | skip
     rename_i s
     refine⟨s::ys,by rw[e];rfl,λj y hj=>?_⟩
     match j,hj with
     |0,hj=>injection hj with hj;subst hj;exact h2
     |j+1,hj=>
      have:=hy j y hj
      rwa [qh,ki 1 j]at this
theorem pC {I:Bool->Nat->Prop}{w:World}{sz:Nat}{xs:List (List V)}{blk off:Nat}(h:eN w I sz xs blk off)(hok:allRows kU xs=true):xs=[]\/sz=1:=by
 cases h with
 |nil=>exact .inl rfl
 |cons r xs hl hc hr=>
  right
  simp only[allRows]at hok
  split at hok
  case h_2=>cases hok
  rename_i h1
  match r,h1,hl with
  | [],h1,_=>cases h1
  | [_],_,hl=>exact hl.symm
  |_::_::_,h1,_=>simp[kU]at h1
theorem qZ {cs:List V}{arr:Array Value}(hc:∀(j:Nat) (v:V),cs[j]?=some v->∃x,arr[j]?=some x/\VR c v x):∀(l:List V) (off:Nat),(∀j v,l[j]?=some v->cs[off+j]?=some v)->allRows kU (l.map λv=>[v])=true->∃ys:List ByteArray,(l.map λv=>[v])=ys.map oM/\∀j y,ys[j]?=some y->arr[off+j]?=some (.string y)
 | [],_,_,_=>⟨[],rfl,λj y h=>by simp at h⟩
 |v::l,off,hl,hok=>by
  simp only[bj,allRows]at hok
  split at hok
  case h_2=>cases hok
  rename_i h1
  obtain⟨ys,e,hy⟩:=qZ hc l (off+1) (λj w hj=>by have:=hl (j+1) w hj;rwa [<- qh,Nat.add_right_comm]at this) hok
  obtain⟨x,h2,h3⟩:=hc off v (hl 0 v rfl)
  have hx:∃s,x=.string s/\v=.str (Ax.bytes s):=by
   cases v <;> first | (simp[kU]at h1;done) | skip
   obtain⟨s,h4,h5⟩:=h3.eX
   exact⟨s,h4,by rw[h5]⟩
  obtain⟨s,rfl,rfl⟩:=hx
  refine⟨s::ys,by rw[bj,e];rfl,λj y hj=>?_⟩
  match j,hj with
  |0,hj=>injection hj with hj;subst hj;exact h2
  |j+1,hj=>
   have:=hy j y hj
   rwa [qh,ki 1 j]at this
end
end
section
section
variable {E:Env}{c:Cx}
theorem Lh (hs:SR E c) {i:Ty}(hi:E.ty 9=some i)(h1:i.size=1) {f b t:Nat}{X:V}{ex:Bool}{es:List (V × V)}(hf:f∈[131,327])(hb:c.Z[b]?=some (.cells t [X] ex))
  (hX:(∃m,X=.mp m/\c.Z[m]?=some (.map es))\/∃g,X=.imp g es)(hok:allRows kU (es.map λe=>rowOf e.1)=true)(hlen:Nat.ble (es.map λe=>rowOf e.1).length 1000000=true) :
  ∃ys:List ByteArray,(es.map λe=>rowOf e.1)=ys.map oM/\tP Tryz.prog 94 [.func (.func f) #[] #[.pointer (some ⟨c.blk b,0,none⟩)]] c.w λx w'=>(ys=[]->jW E c .aB c.Z x w')/\(ys≠[]->jW E c (.sl c.Z.length 0 ys.length none) (c.Z++[.cells 9 (lP strLt (ys.map oM)).flatten false]) x w'):=by
 obtain⟨x,hx,hvx,hblt⟩:=vL hs hb
 obtain⟨blk,en,cl,l,rfl,h2,h3,h4,h5⟩:=PK hs hX hvx
 obtain⟨ys,e1,e2⟩:=LL (enc:=encS) (abs:=oM) (λh hr=>rowS h hr) h5 hok
 have hl:ys.length<=1000000:=by rw[e2,az]at hlen;exact je hlen
 have hken:(en.toList.map (·.key)).Perm (ys.map encS):=by rw[<- e1];exact (h4.map _).symm
 have hks:∀x∈en.toList.map (·.key),∃y,x=encS y:=λx hx=>by
  have:=hken.mem_iff.1 hx
  obtain⟨y,_,rfl⟩:=cg.1 this
  exact⟨y,rfl⟩
 have hsz:en.size=ys.length:=by have:=hken.length_eq;simpa using this
 refine⟨ys,e2,aa6 hs hi h1 f _ ?_ ys hl ?_⟩
 ·simp only[By,br,dz]at hf
  rcases hf with rfl | rfl
  ·exact enters_of Tryz.func131 (by kernel_rfl) rfl
  ·exact enters_of Tryz.func327 (by kernel_rfl) rfl
 ·rw[<- hsz]
  simp only[By,br,dz]at hf
  rcases hf with rfl | rfl
  ·exact yW (J7 _ (H9 Fence.wide 2 trivial rfl (by omega) (c.blk b) blk en cl c.w hblt hx h2 h3.st hks)) λxs hp=>CQ abo (λ_=>rfl) (hp.trans hken)
  ·exact yW (J7 _ (H8 Fence.wide 2 trivial rfl (by omega) (c.blk b) blk en cl c.w hblt hx h2 h3.st hks)) λxs hp=>CQ abo (λ_=>rfl) (hp.trans hken)
theorem Li (hs:SR E c) {i:Ty}(hi:E.ty 51=some i)(h1:i.size=2) {f b t:Nat}{X:V}{ex:Bool}{es:List (V × V)}(hf:f∈[154])(hb:c.Z[b]?=some (.cells t [X] ex))
  (hX:(∃m,X=.mp m/\c.Z[m]?=some (.map es))\/∃g,X=.imp g es)(hok:allRows mX (es.map λe=>rowOf e.1)=true)(hlen:Nat.ble (es.map λe=>rowOf e.1).length 1000000=true) :
  ∃ys:List (Bool × ByteArray),(es.map λe=>rowOf e.1)=ys.map AZ/\tP Tryz.prog 116 [.func (.func f) #[] #[.pointer (some ⟨c.blk b,0,none⟩)],.func (.func 118) #[] #[]] c.w λx w'=>(ys=[]->jW E c .aB c.Z x w')/\(ys≠[]->jW E c (.sl c.Z.length 0 ys.length none) (c.Z++[.cells 51 (lP uY (ys.map AZ)).flatten false]) x w'):=by
 obtain⟨x,hx,hvx,hblt⟩:=vL hs hb
 obtain⟨blk,en,cl,l,rfl,h2,h3,h4,h5⟩:=PK hs hX hvx
 obtain⟨ys,e1,e2⟩:=LL (enc:=qY) (abs:=AZ) (λh hr=>rE h hr) h5 hok
 have hl:ys.length<=1000000:=by rw[e2,az]at hlen;exact je hlen
 have hken:(en.toList.map (·.key)).Perm (ys.map qY):=by rw[<- e1];exact (h4.map _).symm
 have hks:∀x∈en.toList.map (·.key),∃y,x=qY y:=λx hx=>by
  have:=hken.mem_iff.1 hx
  obtain⟨y,_,rfl⟩:=cg.1 this
  exact⟨y,rfl⟩
 have hsz:en.size=ys.length:=by have:=hken.length_eq;simpa using this
 refine⟨ys,e2,finL hs hi h1 f _ ?_ ys hl ?_⟩
 ·simp only[By,br,dz]at hf
  subst hf
  exact enters_of Tryz.func154 (by kernel_rfl) rfl
 ·rw[<- hsz]
  simp only[By,br,dz]at hf
  subst hf
  exact yW (J7 _ (H_ Fence.wide 2 trivial rfl (by omega) (c.blk b) blk en cl c.w hblt hx h2 h3.st hks)) λxs hp=>CQ decL (λ_=>rfl) (hp.trans hken)
theorem BW (hs:SR E c) {i:Ty}(hi:E.ty 9=some i)(h1:i.size=1) {f b t:Nat}{X:V}{ex:Bool}(hf:f∈[260])(hb:c.Z[b]?=some (.cells t [X] ex)) (ys:List ByteArray)(hl:ys.length<=1000000)
  (hX:∀x,c.w.cell? ⟨c.blk b,0,none⟩=some x->VR c X x->∃p cap,x=.slice p ys.length cap/\∀j y,ys[j]?=some y->∃blk off,p=some ⟨blk,off,none⟩/\c.w.cell? ⟨blk,off+j,none⟩=some (.string y)) :
  tP Tryz.prog 94 [.func (.func f) #[] #[.pointer (some ⟨c.blk b,0,none⟩)]] c.w λx w'=>(ys=[]->jW E c .aB c.Z x w')/\(ys≠[]->jW E c (.sl c.Z.length 0 ys.length none) (c.Z++[.cells 9 (lP strLt (ys.map oM)).flatten false]) x w'):=by
 obtain⟨x,hx,hvx,hblt⟩:=vL hs hb
 obtain⟨p,cap,rfl,hp⟩:=hX x hx hvx
 simp only[By,br,dz]at hf
 subst hf
 exact aa6 hs hi h1 _ _ (enters_of Tryz.func260 (by kernel_rfl) rfl) ys hl (yW (G4 Fence.wide 2 trivial rfl (by omega) (c.blk b) p cap ys c.w hblt hl hx hp) λxs e=>by rw[e])
theorem Ea {i:Ty}(hi:E.ty 9=some i)(h1:i.size=1):iC Tryz.prog E 94 (tA 9 [131,327] [260]):=by
 intro c vs xs v σ' hs hv h
 unfold tA at h
 split at h
 case h_2=>cases h
 rename_i x
 cases hv with
 |cons _ y _ zs hv1 hv2=>
 cases hv2
 obtain⟨rows,hk,hok,hlen,hres⟩:=Bk h
 have fin:∀(ys:List ByteArray),rows=ys.map oM->tP Tryz.prog 94 [y] c.w (λx w'=>(ys=[]->jW E c .aB c.Z x w')/\(ys≠[]->jW E c (.sl c.Z.length 0 ys.length none) (c.Z++[.cells 9 (lP strLt (ys.map oM)).flatten false]) x w'))->tP Tryz.prog 94 [y] c.w (jW E c v σ'):=by
  intro ys e hr
  refine hr.mono λx w' ⟨k1,k2⟩=>?_
  rcases hres with⟨r0,rfl,rfl⟩ | ⟨r0,rfl,rfl⟩
  ·exact k1 (by rw[e]at r0;simpa using r0)
  ·have:=k2 (λe0=>r0 (by rw[e,e0];rfl))
   rw[e,az]
   exact this
 unfold keysOf at hk
 split at hk
 case h_2=>cases hk
 rename_i f b
 have hy:=Qt hv1
 subst hy
 split at hk
 ·rename_i hb hf
  split at hk
  case h_2=>cases hk
  rename_i es hm
  have hk:=cv hk
  subst hk
  obtain⟨ys,e,hr⟩:=Lh hs hi h1 (kL hf) hb (.inl ⟨_,rfl,hm⟩) hok hlen
  exact fin ys e hr
 ·rename_i hb hf
  have hk:=cv hk
  subst hk
  obtain⟨ys,e,hr⟩:=Lh hs hi h1 (kL hf) hb (.inr ⟨_,rfl⟩) hok hlen
  exact fin ys e hr
 ·rename_i hb hf
  have hk:=cv hk
  subst hk
  refine fin [] rfl (BW hs hi h1 (kL hf) hb [] (gz _) λx _ hx=>?_)
  have:x=.slice none 0 0:=by cases hx with | inl h=>cases h;rfl
  exact⟨none,0,this,λj y h=>by simp at h⟩
 ·rename_i t g xs full ex hb hf
  have hk:=cv hk
  subst hk
  obtain⟨x0,hx0,hv0,_⟩:=vL hs hb
  obtain⟨blk,off,sp,cap,sz,rfl,hsp,_,_,hr⟩:=hv0.nI
  rcases hsp with⟨rfl,-⟩ | ⟨rfl,rfl⟩
  case inr=>
   refine fin [] rfl (BW hs hi h1 (kL hf) hb [] (gz _) λx hx _=>?_)
   rw[hx0]at hx
   have hx:=cv hx
   subst hx
   exact⟨_,0,rfl,λj y hj=>by simp at hj⟩
  obtain⟨ys,e,hy⟩:∃ys:List ByteArray,xs=ys.map oM/\∀j y,ys[j]?=some y->c.w.cell? ⟨blk,off+j,none⟩=some (.string y):=by
   rcases pC hr hok with rfl | rfl
   ·exact⟨[],rfl,λj y h=>by simp at h⟩
   ·exact xE hr hok
  have hl:xs.length=ys.length:=by rw[e,az]
  refine fin ys e (BW hs hi h1 (kL hf) hb ys (by rw[<- hl];exact je hlen) λx hx _=>?_)
  rw[hx0]at hx
  have hx:=cv hx
  subst hx
  exact⟨_,cap,by rw[hl],λj y hj=>⟨blk,off,rfl,hy j y hj⟩⟩
 ·rename_i t m off len cap ex hb hf
  split at hk
  case h_2=>cases hk
  rename_i t' cs ex' hm
  split at hk
  case h_2=>cases hk
  rename_i hle
  have hk:=cv hk
  subst hk
  have hle:=je hle
  obtain⟨x0,hx0,hv0,_⟩:=vL hs hb
  obtain⟨arr,k1,k2,k3,k4,k5,k6,k7⟩:=hs.obj m _ hm
  obtain⟨ys,e,hy⟩:=qZ k7 ((cs.drop off).take len) off (λj w hj=>by
   have hjl:j<len:=gv (AS.1 hj).1 (by rw[bl];exact Nat.min_le_left _ _)
   rw[gq hjl,me]at hj
   exact hj) hok
  have hl:ys.length=len:=by
   have:=au List.length e
   simp only[az,bl,qd]at this
   omega
  cases hv0 with
  |inl h=>cases h
  |sl _ _ _ _ cap' h2 h3 h4 h5=>
   refine fin ys e (BW hs hi h1 (kL hf) hb ys (by
    have:=je hlen
    rw[e,az]at this
    exact this) λx hx _=>?_)
   rw[hx0]at hx
   have hx:=cv hx
   subst hx
   exact⟨_,cap',by rw[hl],λj y hj=>⟨c.blk m,off,rfl,by
    have:=hy j y hj
    simp[World.cell?,k1,this]⟩⟩
 ·cases hk
theorem Eb {i:Ty}(hi:E.ty 51=some i)(h1:i.size=2):iC Tryz.prog E 116 (mZ 51 [154] [] 118):=by
 intro c vs xs v σ' hs hv h
 unfold mZ at h
 split at h
 case h_2=>cases h
 rename_i x fo
 split at h
 case h_2=>cases h
 rename_i hfo
 have hfo:=j6 hfo
 subst hfo
 cases hv with
 |cons _ y _ zs hv1 hv2=>
 cases hv2 with
 |cons _ y2 _ zs2 hv3 hv4=>
 cases hv4
 have hy2:y2=.func (.func 118) #[] #[]:=by
  cases hv3 with
  |inl h=>cases h;rfl
  |fn _ _ _ a b ha hb=>cases ha;cases hb;rfl
 subst hy2
 obtain⟨rows,hk,hok,hlen,hres⟩:=Bk h
 have fin:∀(ys:List (Bool × ByteArray)),rows=ys.map AZ->tP Tryz.prog 116 [y,.func (.func 118) #[] #[]] c.w (λx w'=>(ys=[]->jW E c .aB c.Z x w')/\(ys≠[]->jW E c (.sl c.Z.length 0 ys.length none) (c.Z++[.cells 51 (lP uY (ys.map AZ)).flatten false]) x w'))->tP Tryz.prog 116 [y,.func (.func 118) #[] #[]] c.w (jW E c v σ'):=by
  intro ys e hr
  refine hr.mono λx w' ⟨k1,k2⟩=>?_
  rcases hres with⟨r0,rfl,rfl⟩ | ⟨r0,rfl,rfl⟩
  ·exact k1 (by rw[e]at r0;simpa using r0)
  ·have:=k2 (λe0=>r0 (by rw[e,e0];rfl))
   rw[e,az]
   exact this
 unfold keysOf at hk
 split at hk
 case h_2=>cases hk
 rename_i f b
 have hy:=Qt hv1
 subst hy
 split at hk
 ·rename_i hb hf
  split at hk
  case h_2=>cases hk
  rename_i es hm
  have hk:=cv hk
  subst hk
  obtain⟨ys,e,hr⟩:=Li hs hi h1 (kL hf) hb (.inl ⟨_,rfl,hm⟩) hok hlen
  exact fin ys e hr
 ·rename_i hb hf
  have hk:=cv hk
  subst hk
  obtain⟨ys,e,hr⟩:=Li hs hi h1 (kL hf) hb (.inr ⟨_,rfl⟩) hok hlen
  exact fin ys e hr
 ·rename_i hf;cases hf
 ·rename_i hf;cases hf
 ·rename_i hf;cases hf
 ·cases hk
end
end
end Go.AxC
end
section
namespace Go.AxC
open Go Go.Proofs Go.Ax Go.RowKit Go.Sort Go.Shelf
theorem QI {arr:Array Value}:∀(ys:List ByteArray),(∀j y,ys[j]?=some y->arr[0+j]?=some (Value.string y))->arr.toList.take (ys.map λx=>x.data.toList).length=(ys.map λx=>x.data.toList).map encStr:=by
 intro ys h
 apply jn
 intro j
 rw[az,ku]
 by_cases hj:j<ys.length
 ·rw[gq hj,Array.getElem?_toList]
  have:=h j ys[j] (BY hj)
  rw[cz]at this
  rw[this,kq,BY hj]
  exact au some (Bo ys[j]).symm
 ·rw[List.getElem?_take_eq_none (by omega),gu (by simp;omega)]
theorem I7:∀zs:List ByteArray,((zs.map oM).flatten).length=zs.length
 | []=>rfl
 |z::zs=>by simp only[bj,da,an,I7 zs,oM,aa,bf];omega
theorem Io (E:Env) {i:Ty}(hi:E.ty 9=some i)(h1:i.size=1):iC Tryz.prog E 79 (pQ 9):=by
 intro c vs xs v σ' hs hv h
 unfold pQ at h
 split at h
 ·injection h with h;injection h with e1 e2
  subst e1 e2
  cases hv with
  |cons _ y _ zs hv1 hv2=>
  cases hv2
  have hy:y=.slice none 0 0:=by cases hv1 with | inl h=>cases h;rfl
  subst hy
  refine .inl ⟨Tryz.call79 _ _,(AnyM.slices_Sort_string_none Tryz.sort79 none 0 c.w).mono ?_⟩
  rintro e w' ⟨rfl,rfl⟩
  exact⟨_,rfl,c,rfl,rfl,Ext.refl c,hs,.gB [] [] .nil⟩
 ·rename_i b len cap
  split at h
  case h_2=>cases h
  rename_i u cs ex hb
  split at h
  case h_2=>cases h
  rename_i h2 h3 h4 h5
  injection h with h;injection h with e1 e2
  subst e1 e2
  have h2:=j6 h2
  have h3:=j6 h3
  have h5:=je h5
  subst h2
  cases hv with
  |cons _ y _ zs hv1 hv2=>
  cases hv2
  obtain⟨arr,k1,k2,k3,k4,k5,k6,k7⟩:=hs.obj b _ hb
  obtain⟨ys,e,hy⟩:=qZ k7 cs 0 (λj w hj=>by rw[cz];exact hj) h4
  have hl:ys.length=cs.length:=by
   have:=au List.length e
   simpa using this.symm
  have hlv:live c.Z b:=⟨_,hb,rfl⟩
  cases hv1 with
  |inl h=>cases h
  |sl _ _ _ _ cap' g2 g3 g4 g5=>
   have hH:=holds_of_block (ss:=ys.map λx=>x.data.toList) k1 (QI ys hy)
   have hgl:c.blk b<c.w.heap.size:=(bh.1 k1).1
   have cS:=AnyM.slices_Sort_string Tryz.sort79 (c.blk b) 0 cap' (ys.map λx=>x.data.toList) c.w hH hgl (by rw[az];omega)
   rw[az,hl,<- h3,Be]at cS
   refine .inl ⟨Tryz.call79 _ _,cS.mono ?_⟩
   rintro e' w' ⟨rfl,n,os,rfl⟩
   refine⟨_,rfl,?_⟩
   have hp:=(lE (lt:=D_) ys).length_eq
   have hheap:=heap_sorted (n:=n) (os:=os) ((iI D_ ys).map λx=>x.data.toList).toArray k1
   have hgrow:=grownBy_sorted (w:=c.w) (g:=c.blk b) (n:=n) (os:=os) ((iI D_ ys).map λx=>x.data.toList).toArray
   have htake:=take_putCells arr ((iI D_ ys).map λx=>x.data.toList) (by rw[az,hp,hl];exact k4)
   rw[<- AL]at htake
   generalize grow (putRow encStr (Sort.ahead c.w n) (c.blk b) 0 ((iI D_ ys).map λx=>x.data.toList).toArray) os=w' at *
   have hsz:(putCells encStr 0 ((iI D_ ys).map λx=>x.data.toList).toArray arr).size=arr.size:=by simp[putCells]
   generalize putCells encStr 0 ((iI D_ ys).map λx=>x.data.toList).toArray arr=arr' at *
   obtain⟨f1,f2,f3⟩:=Qu (iI D_ ys)
   have hrows:(lP strLt (cs.map λv=>[v])).flatten=((iI D_ ys).map oM).flatten:=by
    rw[e,Ai oM];rfl
   rw[hrows]
   have hlen:(((iI D_ ys).map oM).flatten).length=cs.length:=by
    rw[I7,hp,hl]
   let c1:=c.put b (.cells arr' 9 (0,0)) (.cells 9 ((iI D_ ys).map oM).flatten ex)
   have x1:Ext c c1:=Cx.nG hlv _ _
   have s1:SR E c1:=Cx.xT hs hlv _ _ ⟨arr',by
    show (c.w.heap.setIfInBounds (c.blk b) _)[c.blk b]?=_
    simp[hgl],hsz.trans k2,k3,by rw[hlen,hsz];exact k4,λe=>by rw[hlen,hsz];exact k5 e,f2,λj a hj=>by
     obtain⟨x,q1,q2⟩:=f3 c1 j a hj
     refine⟨x,?_,q2⟩
     rw[<- htake]at q1
     have hjl:j<((iI D_ ys).map λx=>x.data.toList).length:=by
      rw[az,hp,hl,<- hlen]
      exact (AS.1 hj).1
     rw[gq hjl,Array.getElem?_toList]at q1
     exact q1⟩
   have hc1:c1.w.heap.size=c.w.heap.size:=by simp[c1,Cx.put]
   obtain⟨x2,s2⟩:=wI s1 (w:=w') (by rw[hc1];exact hgrow.size) (λk hk=>by
    rw[hc1]at hk
    by_cases hkb:k=c.blk b
    ·subst hkb
     rw[hheap]
     simp[c1,Cx.put,hgl]
    ·rw[hgrow.block k hk (λe=>hkb (cv e))]
     simp[c1,Cx.put,jo hkb]) hgrow.os hgrow.tape hgrow.output
   exact⟨c1.outer w',rfl,rfl,x1.trans x2,s2,.gB [] [] .nil⟩
 ·cases h
end Go.AxC
end
section
namespace Go.Proofs.YtmbikbgdbbcbmaaGreatDoor
open Go Go.Ax
theorem mixed:Tryz.prog.follows .mixedOrders=true:=by kernel_rfl
noncomputable def bare:Ax.Ground Tryz.prog:={ ground with hspec:=.nil }
theorem Zv:∀t,ground.DY t=true->liesAt Tryz.prog Tryz.prog.depth t 1 0 t 1=true:=by
 intro t h
 have h':Nat.beq t 267=true:=h
 have e:=j6 h'
 subst e
 show liesAt Tryz.prog Tryz.prog.depth 267 1 0 267 1=true
 kernel_rfl
theorem QM:mM bare:=⟨G6,Iu,IF,Zv,trivial⟩
theorem Mf:cQ Tryz.prog (bare.env .nil):=QM.Ma _
theorem Me:kT Tryz.prog (bare.env .nil):=QM.L0 (s:=.nil) trivial
theorem Rx:Ax.Alike (bare.env .nil) (ground.env .nil):=⟨rfl,rfl⟩
theorem JG:fL Tryz.prog (ground.env .nil) 267 jD:=Ah _
theorem JH:fL Tryz.prog (ground.env .nil) 185 kH:=FY _ rfl
theorem JF:fL Tryz.prog (ground.env .nil) 308 vV:=JB _ rfl
theorem JI:fL Tryz.prog (ground.env .nil) 159 nR:=
 (Hi (E:=bare.env .nil) Mf Me mixed (by kernel_rfl) (by kernel_rfl) (by kernel_rfl) (by kernel_rfl) (by kernel_rfl) (by kernel_rfl) (by kernel_rfl) (by kernel_rfl) (by kernel_rfl) (by kernel_rfl) (by kernel_rfl) (by kernel_rfl) (by kernel_rfl) (by kernel_rfl) (by kernel_rfl)).alike Rx
theorem aal:iC Tryz.prog (ground.env .nil) 94 (tA 9 [131,327] [260]):=
 Go.AxC.Ea (i:=cM) (by kernel_rfl) (by kernel_rfl)
theorem VY:iC Tryz.prog (ground.env .nil) 116 (mZ 51 [154] [] 118):=
 Go.AxC.Eb (i:=cL) (by kernel_rfl) (by kernel_rfl)
theorem VX:iC Tryz.prog (ground.env .nil) 125 LU:=
 (Qn (E:=bare.env .nil) Mf Me mixed (by kernel_rfl) (sz:=tT.size) (by_:=tT.bytes) (zv:=tT.zero) (sz9:=cM.size) (by9:=cM.bytes) (z9:=cM.zero) (by kernel_rfl) (by kernel_rfl)).alike Rx
theorem aam:iC Tryz.prog (ground.env .nil) 79 (pQ 9):=Go.AxC.Io _ (i:=cM) (by kernel_rfl) (by kernel_rfl)
theorem VW:iC Tryz.prog (ground.env .nil) 318 B6:=Kb _
theorem VV:iC Tryz.prog (ground.env .nil) 320 (LR 5):=Qm _ (i:=ty5) (by kernel_rfl) (by kernel_rfl) Tryz.underlying5
theorem zP:mM ground:=⟨G6,Iu,IF,Zv,⟨⟨aam,⟨aal,VY⟩⟩,⟨VX,⟨VW,VV⟩⟩⟩⟩
abbrev kR (s:BT (List V->Option V)):Prop:=s.Ae (fL Tryz.prog (ground.env .nil))
abbrev xG (f:Nat) (t:List (List V × V)):Prop:=fL Tryz.prog (ground.env .nil) f (bM t)
theorem OX:kR sp0:=⟨⟨JI,JH⟩,⟨JG,JF⟩⟩
theorem eM {s:BT (List V->Option V)}(hs:kR s) {f:Nat}{F:Ax.Fn}(hF:L2.get f=some F) {t:List (List V × V)}(h:jZ (ground.env s) f t=true):fL Tryz.prog (ground.env .nil) f (bM t):=zP.memo hs mixed hF (Lm h)
theorem gQ {s:BT (List V->Option V)}{f:Nat}{t:List (List V × V)}(h:xG f t) (k:kR s):kR (s.put f (bM t)):=BT.Gd (p:=fL Tryz.prog (ground.env .nil)) h k
theorem US:xG 266 t266:=eM OX (F:=aA Tryz.f266) (by kernel_rfl) a266
theorem OP:kR Uc:=gQ US OX
theorem UU:xG 237 t237:=eM OP (F:=aA Tryz.f237) (by kernel_rfl) a237
theorem OM:kR JC:=gQ UU OP
theorem U1:xG 199 t199:=eM OM (F:=aA Tryz.f199) (by kernel_rfl) a199
theorem OK:kR Jd:=gQ U1 OM
theorem UX:xG 212 t212:=eM OK (F:=aA Tryz.f212) (by kernel_rfl) a212
theorem OJ:kR sp4:=gQ UX OK
theorem U4:xG 150 t150:=eM OJ (F:=aA Tryz.f150) (by kernel_rfl) a150
theorem OI:kR sp5:=gQ U4 OJ
theorem UW:xG 215 t215:=eM OI (F:=aA Tryz.f215) (by kernel_rfl) a215
theorem OH:kR sp6:=gQ UW OI
theorem U5:xG 149 t149:=eM OH (F:=aA Tryz.f149) (by kernel_rfl) a149
theorem OG:kR sp7:=gQ U5 OH
theorem U9:xG 119 t119:=eM OG (F:=aA Tryz.f119) (by kernel_rfl) a119
theorem OE:kR sp8:=gQ U9 OG
theorem U3:xG 158 t158:=eM OE (F:=aA Tryz.f158) (by kernel_rfl) a158
theorem OD:kR Xb:=gQ U3 OE
theorem U8:xG 120 t120:=eM OD (F:=aA Tryz.f120) (by kernel_rfl) a120
theorem Ld:kR UR:=gQ U8 OD
theorem X1:xG 68 t68:=eM Ld (F:=aA Tryz.f68) (by kernel_rfl) a68
theorem Lc:kR UQ:=gQ X1 Ld
theorem X0:xG 69 t69:=eM Lc (F:=aA Tryz.f69) (by kernel_rfl) a69
theorem La:kR OW:=gQ X0 Lc
theorem X8:xG 13 t13:=eM La (F:=aA Tryz.f13) (by kernel_rfl) a13
theorem K_:kR OV:=gQ X8 La
theorem XY:xG 78 t78:=eM K_ (F:=aA Tryz.f78) (by kernel_rfl) a78
theorem K9:kR OU:=gQ XY K_
theorem X7:xG 23 t23:=eM K9 (F:=aA Tryz.f23) (by kernel_rfl) a23
theorem K8:kR OT:=gQ X7 K9
theorem X6:xG 25 t25:=eM K8 (F:=aA Tryz.f25) (by kernel_rfl) a25
theorem K7:kR OQ:=gQ X6 K8
theorem XX:xG 88 t88:=eM K7 (F:=aA Tryz.f88) (by kernel_rfl) a88
theorem K6:kR RY:=gQ XX K7
theorem XW:xG 93 t93:=eM K6 (F:=aA Tryz.f93) (by kernel_rfl) a93
theorem K5:kR RX:=gQ XW K6
theorem X2:xG 32 t32:=eM K5 (F:=aA Tryz.f32) (by kernel_rfl) a32
theorem K4:kR RW:=gQ X2 K5
theorem X4:xG 28 t28:=eM K4 (F:=aA Tryz.f28) (by kernel_rfl) a28
theorem K3:kR OO:=gQ X4 K4
theorem U7:xG 139 t139:=eM K3 (F:=aA Tryz.f139) (by kernel_rfl) a139
theorem K2:kR UP:=gQ U7 K3
theorem U6:xG 142 t142:=eM K2 (F:=aA Tryz.f142) (by kernel_rfl) a142
theorem K1:kR UO:=gQ U6 K2
theorem U0:xG 202 t202:=eM K1 (F:=aA Tryz.f202) (by kernel_rfl) a202
theorem K0:kR RV:=gQ U0 K1
theorem UZ:xG 203 t203:=eM K0 (F:=aA Tryz.f203) (by kernel_rfl) a203
theorem KZ:kR UN:=gQ UZ K0
theorem UY:xG 206 t206:=eM KZ (F:=aA Tryz.f206) (by kernel_rfl) a206
theorem KY:kR RU:=gQ UY KZ
theorem UT:xG 242 t242:=eM KY (F:=aA Tryz.f242) (by kernel_rfl) a242
theorem KX:kR UM:=gQ UT KY
theorem U2:xG 177 t177:=eM KX (F:=aA Tryz.f177) (by kernel_rfl) a177
theorem KW:kR ON:=gQ U2 KX
theorem U_:xG 115 t115:=eM KW (F:=aA Tryz.f115) (by kernel_rfl) a115
theorem KV:kR UL:=gQ U_ KW
theorem XZ:xG 77 t77:=eM KV (F:=aA Tryz.f77) (by kernel_rfl) a77
theorem KU:kR UK:=gQ XZ KV
theorem Va:xG 101 t101:=eM KU (F:=aA Tryz.f101) (by kernel_rfl) a101
theorem RT:kR Xf:=gQ Va KU
theorem Ud:xG 11 t11:=eM RT (F:=aA Tryz.f11) (by kernel_rfl) a11
end Go.Proofs.YtmbikbgdbbcbmaaGreatDoor
end
section
namespace Go.Ax
open Go
section
section
variable {E:Env}{ev:yM}{frz:Fz}{ops:Array Oper}
theorem Qp {J:Array Bool->Fr->Sg->Prop}{R:Fr->Sg->Prop}
  (hsize:∀L fr Z,J L fr Z->L.size=ops.size)
  (hlt:∀i o,ops[i]?=some o->∀e∈o.after.toList,Region.binds .any e=true->e.on<i)
  (hstep:∀L fr Z i o,J L fr Z->ops[i]?=some o->L[i]?=some false->(∀e∈o.after.toList,Region.binds .any e=true->L[e.on]?=some true)->∃fr' σ',bB E ev frz ops o fr Z=some (fr',σ')/\J (L.setIfInBounds i true) fr' σ')
  (hdone:∀L fr Z,J L fr Z->(∀k,k<ops.size->L[k]?=some true)->R fr Z):∀(fuel t:Nat) (L:Array Bool) (acc:List Nat) (fr:Fr) (Z:Sg),J L fr Z->L.toList.count false<=fuel ->
  ∃l,Region.linearise.go .any ops fuel t L acc=acc.reverse++l/\∃r:Fr × Sg,GD E ev frz ops l fr Z=some r/\R r.1 r.2
 |0,t,L,acc,fr,Z,hi,hc=>by
  refine⟨[],by simp[Region.linearise.go],?_⟩
  have:∀k,k<ops.size->L[k]?=some true:=λk hk=>by
   have hk':k<L.size:=by rw[hsize _ _ _ hi];exact hk
   have h0:false ∉ L.toList:=List.count_eq_zero.1 (by omega)
   rw[ec hk']
   cases hx:L[k] with
   |true=>rfl
   |false=>exact (h0 (by rw[<- hx];simp)).elim
  exact⟨(fr,Z),by simp only[GD],hdone _ _ _ hi this⟩
 |fuel+1,t,L,acc,fr,Z,hi,hc=>by
  simp only[Region.linearise.go]
  generalize hrs:(List.range ops.size).filter (λi=>
    !L.getD i true&&((ops[i]?).map (λ(x:Oper)=>x.after.all λe=>!Region.binds .any e||L.getD e.on false)).getD false)=rs
  have mem:∀i,i∈rs ↔ i<ops.size/\L[i]?=some false/\∃o,ops[i]?=some o/\∀e∈o.after.toList,Region.binds .any e=true->L[e.on]?=some true:=by
   intro i
   rw[<- hrs]
   simp only[lu,js,ah]
   refine and_congr po (and_congr ?_ ?_)
   ·rw[kg]
    cases hx:L[i]? with
    |none=>simp
    |some b=>cases b <;> simp
   ·cases ho:ops[i]? with
    |none=>simp
    |some o=>
     simp only[bt,ag,iy,exists_eq_left']
     rw[<- Array.all_toList]
     simp only[dw,ez,fm]
     refine forall_congr' λe=>forall_congr' λhe=>?_
     rw[kg]
     cases hb:Region.binds .any e with
     |false=>simp
     |true=>
      cases hx:L[e.on]? with
      |none=>simp
      |some b=>cases b <;> simp
  cases hget:rs[t % rs.length]? with
  |none=>
   dsimp only
   refine⟨[],by simp,?_⟩
   have hemp:rs=[]:=by
    cases rs with
    |nil=>rfl
    |cons a r=>
     have:=List.getElem?_eq_none_iff.1 hget
     have:=Nat.mod_lt t (show 0<(a::r).length by simp)
     omega
   have:∀k,k<ops.size->L[k]?=some true:=λk hk=>by
    rcases Dv (λk=>L[k]?≠some true) 0 ops.size (by omega) with hn | ⟨a,_,a2,a3,a4⟩
    ·have:=hn k (by omega) hk
     exact Decidable.not_not.1 this
    ·obtain⟨o,ho⟩:=wB a2 (ae ops.size)
     have hal:a<L.size:=by rw[hsize _ _ _ hi];exact a2
     have ha:a∈rs:=(mem a).2 ⟨a2,by
      rw[ec hal]at a3 ⊢
      cases hx:L[a] with
      |true=>rw[hx]at a3;exact (a3 rfl).elim
      |false=>rfl,o,ho,λe he hb=>by
      have:=hlt a o ho e he hb
      exact Decidable.not_not.1 (a4 e.on (by omega) this)⟩
     rw[hemp]at ha;cases ha
   exact⟨(fr,Z),by simp only[GD],hdone _ _ _ hi this⟩
  |some i=>
   dsimp only
   obtain⟨m1,m2,o,ho,m3⟩:=(mem i).1 (af hget)
   obtain⟨fr',σ',hs,hi'⟩:=hstep _ _ _ _ _ hi ho m2 m3
   have hcnt:(L.setIfInBounds i true).toList.count false<=fuel:=by
    have:=count_set L.toList i (by simpa using m2)
    rw[Array.toList_setIfInBounds]
    omega
   obtain⟨l,h1,h2⟩:=Qp hsize hlt hstep hdone fuel (t / rs.length) _ (i::acc) fr' σ' hi' hcnt
   refine⟨i::l,by rw[h1];simp,?_⟩
   simp only[GD,ho,hs]
   exact h2
theorem Cs {ops ops':Array Oper}{o o':Oper}{fr:Fr}{Z:Sg}{r:Fr × Sg}(h1:o'.op=o.op)(h2:o'.dst=o.dst) (g:o.guard=none) (g':o'.guard=none)(h:bB E ev frz ops' o' fr Z=some r):bB E ev frz ops o fr Z=some r:=by
 unfold bB bQ at h ⊢
 rw[g']at h
 rw[g]
 rw[h1,h2]at h
 dsimp only at h ⊢
 rw[b8 rfl]at h ⊢
 split at h
 ·exact h
 ·cases h
def sw (i k:Nat):Nat:=if k=i then i+1 else if k=i+1 then i else k
theorem Er (i k:Nat):sw i (sw i k)=k:=by unfold sw; (repeat' split) <;> omega
theorem Ua {i k:Nat}(h:k≠i)(h':k≠i+1):sw i k=k:=by rw[sw,ay h,ay h']
theorem W9 (i:Nat):sw i i=i+1:=b8 rfl
theorem W8 (i:Nat):sw i (i+1)=i:=by rw[sw,ay (by omega),b8 rfl]
theorem Ou {i k n:Nat}(hi:i+1<n)(h:k<n):sw i k<n:=by unfold sw; (repeat' split) <;> omega
def tw (π:Nat->Nat) (i k:Nat) (o:Oper):Oper:={ o with after:=((o.after.toList.map λe:Edge=>({ e with on:=π e.on }:Edge))++if k=i+1 then [(⟨i,.data⟩:Edge)] else []).toArray }
def two (π:Nat->Nat) (ops:Array Oper) (i:Nat):Array Oper:=match ops[0]? with
 |none=>#[]
 |some d=>((List.range ops.size).map λk=>tw π i k (ops.getD (π k) d)).toArray
theorem rA {π:Nat->Nat}{i:Nat}:(two π ops i).size=ops.size:=by
 unfold two
 split
 ·rename_i h
  have:ops.size=0:=by
   rcases Nat.eq_zero_or_pos ops.size with h0 | h0
   ·exact h0
   ·rw[ec h0]at h;cases h
  simp[this]
 ·simp
theorem KR {π:Nat->Nat}{i k:Nat}{o:Oper}(hp:π k<ops.size)(hk:π (π k)=k)(ho:ops[k]?=some o):(two π ops i)[π k]?=some (tw π i (π k) o):=by
 unfold two
 split
 ·rename_i h
  have h0:0<ops.size:=by omega
  rw[ec h0]at h;cases h
 ·rw[cr,kq,List.getElem?_range hp,bt,hk,kg,ho,ag]
theorem G8 {π:Nat->Nat}{i k:Nat}{o:Oper}{e':Edge}(h:e'∈(tw π i k o).after.toList)(hb:Region.binds .any e'=true):(∃e∈o.after.toList,Region.binds .any e=true/\e'.on=π e.on)\/(k=i+1/\e'.on=i):=by
 simp only[tw,bw,cg]at h
 rcases h with⟨e,h1,rfl⟩ | h
 ·exact .inl ⟨e,h1,hb,rfl⟩
 ·split at h
  ·rename_i hk
   rw[dc]at h;subst h
   exact .inr ⟨hk,rfl⟩
  ·cases h
theorem Fk {fr:Fr}{Z:Sg}{r:Fr × Sg}(h:bG E ev ops fr Z=some r):∃(T:Nat->Fr × Sg) (pre:Nat->Nat->Bool),Dr E ev (eL E ops) ops T pre/\T 0=(fr,Z)/\T ops.size=r:=by
 unfold bG at h
 generalize eL E ops=frz at h ⊢
 obtain⟨l,ts,hpl,hts,hc,hr⟩:∃l ts,cB E frz ops=some l/\eJ E ev frz ops ops.toList fr Z=some ts/\l.all (dM E ev frz ops ts)=true/\last ts=some r:=by
  split at h
  ·cases h
  ·rename_i hp
   obtain⟨ts,h1,h2⟩:=vG _ _ _ _ h
   exact⟨[],ts,hp,h1,rfl,h2⟩
  ·rename_i l _ hp
   split at h
   ·cases h
   ·rename_i ts hts
    split at h
    case isFalse=>cases h
    rename_i hc
    exact⟨l,ts,hp,hts,hc,h⟩
 clear h
 obtain⟨hedge,hplan⟩:oJ 0 ops.toList=true/\vZ E frz ops (ED E frz 0 ops.toList (sL ops.toList []))=some l:=by
  unfold cB at hpl
  split at hpl
  ·rename_i he;exact⟨he,hpl⟩
  ·cases hpl
 rw[dw]at hc
 obtain⟨t1,t2,t3,t4⟩:=xM _ _ _ _ hts
 obtain⟨⟨s,p1,p2⟩,p3⟩:=Ap ops.toList []
 have hpl:(sL ops.toList []).length=ops.toList.length:=by rw[p1];simpa using p2
 have hd:Dr E ev frz ops (λi=>(ts[i]?).getD (⟨0,.leaf⟩,[])) (λi k=>((sL ops.toList []).getD i 0).testBit k):=by
  refine⟨λi o ho=>?_,λi o ho k hk=>?_,λi o ho e he hb=>?_,λi j x y hij hx hy=>?_⟩
  ·obtain⟨p,q,k1,k2,k3⟩:=t4 i o (by simpa using ho)
   simp only[k1,k2,ag]
   exact k3
  ·have h0:=p3 i o (by simpa using ho)
   simp only[bf,cz]at h0
   simp only[l5,h0,ag]at hk
   obtain⟨e,h1,h2,h3⟩:=CP hk
   refine⟨e,h1,h2,?_⟩
   rcases h3 with h3 | h3
   ·exact .inl h3
   ·refine .inr ?_
    have hlt:=kP _ 0 hedge i o (by simpa using ho) e h1 h2
    simp only[l5]at h3 ⊢
    rw[gw,b8 (by omega)]at h3
    exact h3
  ·have:=kP _ 0 hedge i o (by simpa using ho) e he hb
   omega
  ·obtain⟨pa,k1,k4⟩:=o_ (E:=E) (frz:=frz) ops.toList 0 (sL ops.toList []) hpl i x (by simpa using hx)
   obtain⟨pb,l1,l4⟩:=o_ (E:=E) (frz:=frz) ops.toList 0 (sL ops.toList []) hpl j y (by simpa using hy)
   have hP:=sN _ _ hplan i j _ _ hij k4 l4
   obtain⟨a,a',a1,a2,_⟩:=t4 i x (by simpa using hx)
   obtain⟨b,b',b1,b2,_⟩:=t4 j y (by simpa using hy)
   simp only[tQ,cz]at hP
   rcases hP with h | ⟨h1,h2⟩
   ·refine .inl ?_
    simp only[l5,l1,ag]
    exact h
   ·refine .inr ⟨h1,?_⟩
    rcases h2 with⟨h2,h3⟩ | h2
    ·refine⟨λe1 e2=>?_,λe1 e2=>?_⟩
     ·rw[e1,e2]at h2;cases h2
     ·rw[e1,e2]at h3;cases h3
    ·have hn:=hc _ h2
     simp only[dM,hx,hy,a1,b1,b2,ah,ez,fm]at hn
     refine⟨λe1 e2=>?_,λe1 e2=>?_⟩
     ·rcases hn.1 with h | h
      ·rw[e1,e2]at h;cases h
      ·simpa [a1,b1]using h
     ·rcases hn.2 with h | h
      ·rw[e1,e2]at h;cases h
      ·simpa [a1,b2]using h
 refine⟨_,_,hd,by simp only[t2,ag],?_⟩
 rw[t3]at hr
 simp only[ij]at hr
 simp only[hr,ag]
theorem Qx {i : Nat} (hi : i + 1 < ops.size) (hg : ∀ o ∈ ops.toList, o.guard = none) (hlt : oJ 0 ops.toList = true) {fr : Fr} {Z : Sg} {ra rb : Fr × Sg} (hA : bG E ev (two id ops i) fr Z = some ra) (hB : bG E ev (two (sw i) ops i) fr Z = some rb)
    (hf : eL E (two id ops i) = frz) (hf' : eL E (two (sw i) ops i) = frz) (t : Nat) : ∃ q : Fr × Sg, GD E ev frz ops (Region.linearise .any ops t) fr Z = some q /\ ((q.2 = ra.2 /\ q.1.n = ra.1.n /\ ∀ t, q.1.get t = ra.1.get t) \/ (q.2 = rb.2 /\ q.1.n = rb.1.n /\ ∀ t, q.1.get t = rb.1.get t)) := by
  obtain ⟨TA, pA, dA, a0, a1⟩ := Fk hA
  obtain ⟨TB, pB, dB, b0, b1⟩ := Fk hB
  rw [hf] at dA
  rw [hf'] at dB
  clear hA hB
  rw [rA] at a1 b1
  have gd : ∀ {k : Nat} {o : Oper}, ops[k]? = some o -> o.guard = none := fun {k o} ho => hg o (by
    obtain ⟨h1, h2⟩ := bh.1 ho
    rw [<- h2]; simp)
  have hlt' : ∀ k o, ops[k]? = some o -> ∀ e ∈ o.after.toList, Region.binds .any e = true -> e.on < k := fun k o ho e he hb => by
    have := kP _ 0 hlt k o (by simpa using ho) e he hb
    omega
  have stA : ∀ (L : Array Bool) (fr : Fr) (Z : Sg) (k : Nat) (o : Oper), Inv E frz (two id ops i) TA pA L fr Z -> ops[k]? = some o -> L[k]? = some false -> (∀ e ∈ o.after.toList, Region.binds .any e = true -> L[e.on]? = some true) -> (k = i + 1 -> L[i]? = some true) ->
      ∃ fr' σ', bB E ev frz ops o fr Z = some (fr', σ') /\ Inv E frz (two id ops i) TA pA (L.setIfInBounds k true) fr' σ' := by
    intro L fr Z k o hv ho hL hr hki
    have hk := EN ho
    have hgo := gd ho
    obtain ⟨fr', σ', h1, h2⟩ := hv.step dA (KR (π := id) (k := k) hk rfl ho) hL fun e' he' hb => by
      rcases G8 he' hb with ⟨e, e1, e2, e3⟩ | ⟨e1, e2⟩
      · rw [e3]; exact hr e e1 e2
      · rw [e2]; exact hki e1
    exact ⟨fr', σ', Cs (ops' := two id ops i) (o' := tw id i (id k) o) rfl rfl hgo hgo h1, h2⟩
  have stB : ∀ (L LB : Array Bool) (fr : Fr) (Z : Sg) (k : Nat) (o : Oper), L.size = ops.size -> LB.size = ops.size -> (∀ j, j < ops.size -> LB[j]? = L[sw i j]?) -> Inv E frz (two (sw i) ops i) TB pB LB fr Z -> ops[k]? = some o -> L[k]? = some false -> (∀ e ∈ o.after.toList, Region.binds .any e = true -> L[e.on]? = some true) -> (k = i -> L[i + 1]? = some true) ->
      ∃ fr' σ', bB E ev frz ops o fr Z = some (fr', σ') /\ Inv E frz (two (sw i) ops i) TB pB (LB.setIfInBounds (sw i k) true) fr' σ' /\ ∀ j, j < ops.size -> (LB.setIfInBounds (sw i k) true)[j]? = (L.setIfInBounds k true)[sw i j]? := by
    intro L LB fr Z k o hs hs' hLB hv ho hL hr hki
    have hk := EN ho
    have hsk := Ou hi hk
    have hgo := gd ho
    obtain ⟨fr', σ', h1, h2⟩ := hv.step dB (KR (π := sw i) (k := k) hsk (Er i k) ho) (by rw [hLB _ hsk, Er]; exact hL) fun e' he' hb => by
      rcases G8 he' hb with ⟨e, e1, e2, e3⟩ | ⟨e1, e2⟩
      · have he := hr e e1 e2
        have hlt2 := hlt' k o ho e e1 e2
        rw [e3, hLB _ (Ou hi (by omega)), Er]; exact he
      · rw [e2, hLB _ (by omega), W9]
        refine hki ?_
        have := au (sw i) e1
        rw [Er, W8] at this
        exact this
    refine ⟨fr', σ', Cs (ops' := two (sw i) ops i) (o' := tw (sw i) i (sw i k) o) rfl rfl hgo hgo h1, h2, fun j hj => ?_⟩
    rw [jt, jt]
    by_cases e : sw i k = j
    · subst e
      rw [b8 rfl, b8 (Er i k).symm, b8 (by omega), b8 (by omega)]
    · rw [ay e, ay (fun h => e (by rw [h, Er])), hLB j hj]
  have hrep : ∀ k, (Array.replicate ops.size false)[k]? ≠ some true := fun k hk => by
    rw [Array.getElem?_replicate] at hk
    split at hk <;> simp at hk
  have begins : ∀ {π : Nat -> Nat} {T : Nat -> Fr × Sg} {p : Nat -> Nat -> Bool}, Dr E ev frz (two π ops i) T p -> T 0 = (fr, Z) -> Inv E frz (two π ops i) T p (Array.replicate ops.size false) fr Z := by
    intro π T p h e0
    have f0 : fr = (T 0).1 := by rw [e0]
    have s0 : Z = (T 0).2 := by rw [e0]
    refine ⟨by simp [rA], fun i k hk => (hrep i hk).elim, by rw [f0], fun t j hj hc => ?_, fun j hj hc => ?_⟩
    · rw [f0]
      exact h.Ga j (a := 0) (by omega) hj fun k o _ k2 ho hd => hrep k ((hc k o ho hd).1 k2)
    · rw [s0]
      refine h.xS j (a := 0) (by omega) hj fun k o _ k2 ho => ?_
      cases hw : (effect E frz o.op).2 with
      | false => rfl
      | true => exact (hrep k ((hc k o ho hw).1 k2)).elim
  have r0 : ∀ j, j < ops.size -> (Array.replicate ops.size false)[j]? = some false := fun j hj => by rw [Array.getElem?_replicate, b8 hj]
  let J : Array Bool -> Fr -> Sg -> Prop := fun L fr Z => L.size = ops.size /\
    ((L[i]? = some false /\ L[i + 1]? = some false /\ Inv E frz (two id ops i) TA pA L fr Z /\ Inv E frz (two (sw i) ops i) TB pB L fr Z) \/
     (L[i]? = some true /\ Inv E frz (two id ops i) TA pA L fr Z) \/
     (L[i + 1]? = some true /\ ∃ LB : Array Bool, LB.size = ops.size /\ (∀ j, j < ops.size -> LB[j]? = L[sw i j]?) /\ Inv E frz (two (sw i) ops i) TB pB LB fr Z))
  let R : Fr -> Sg -> Prop := fun f s => (s = ra.2 /\ f.n = ra.1.n /\ ∀ t, f.get t = ra.1.get t) \/ (s = rb.2 /\ f.n = rb.1.n /\ ∀ t, f.get t = rb.1.get t)
  have other : ∀ {L : Array Bool} {k j : Nat}, j ≠ k -> (L.setIfInBounds k true)[j]? = L[j]? := fun {L k j} h => by
    rw [jt, ay (jo h)]
  have self : ∀ {L : Array Bool} {k : Nat}, k < L.size -> (L.setIfInBounds k true)[k]? = some true := fun {L k} h => by
    rw [jt, b8 rfl, b8 h]
  have stay : ∀ {L : Array Bool} {k j : Nat}, L[j]? = some true -> (L.setIfInBounds k true)[j]? = some true := fun {L k j} h => by
    by_cases e : j = k
    · subst e
      exact self (by obtain ⟨h1, _⟩ := bh.1 h; exact h1)
    · rw [other e]; exact h
  obtain ⟨l, h1, r, h2, h3⟩ := Qp (E := E) (ev := ev) (frz := frz) (J := J) (R := R) (fun L fr Z h => h.1) hlt' (by
    rintro L fr Z k o ⟨hs, hJ⟩ ho hL hr
    have hk := EN ho
    have hs2 : (L.setIfInBounds k true).size = ops.size := by simp [hs]
    rcases hJ with ⟨f1, f2, vA, vB⟩ | ⟨f1, vA⟩ | ⟨f2, LB, g1, g2, vB⟩
    · have same : ∀ j, j < ops.size -> L[j]? = L[sw i j]? := fun j hj => by
        by_cases e : j = i
        · subst e; rw [W9, f1, f2]
        · by_cases e' : j = i + 1
          · subst e'; rw [W8, f1, f2]
          · rw [Ua e e']
      by_cases e : k = i
      · subst e
        obtain ⟨fr', σ', k1, k2⟩ := stA L fr Z k o vA ho hL hr (fun h => by omega)
        exact ⟨fr', σ', k1, hs2, .inr (.inl ⟨self (by omega), k2⟩)⟩
      · by_cases e' : k = i + 1
        · subst e'
          obtain ⟨fr', σ', k1, k2, k3⟩ := stB L L fr Z (i + 1) o hs hs same vB ho hL hr (fun h => by omega)
          exact ⟨fr', σ', k1, hs2, .inr (.inr ⟨self (by omega), _, by simp [hs], k3, k2⟩)⟩
        · obtain ⟨fr', σ', k1, k2⟩ := stA L fr Z k o vA ho hL hr (fun h => (e' h).elim)
          obtain ⟨fr2, σ2, m1, m2, _⟩ := stB L L fr Z k o hs hs same vB ho hL hr (fun h => (e h).elim)
          rw [k1] at m1
          injection m1 with m1; injection m1 with m3 m4; subst m3 m4
          rw [Ua e e'] at m2
          exact ⟨fr', σ', k1, hs2, .inl ⟨by rw [other (jo e)]; exact f1, by rw [other (jo e')]; exact f2, k2, m2⟩⟩
    · obtain ⟨fr', σ', k1, k2⟩ := stA L fr Z k o vA ho hL hr (fun _ => f1)
      exact ⟨fr', σ', k1, hs2, .inr (.inl ⟨stay f1, k2⟩)⟩
    · obtain ⟨fr', σ', k1, k2, k3⟩ := stB L LB fr Z k o hs g1 g2 vB ho hL hr (fun _ => f2)
      exact ⟨fr', σ', k1, hs2, .inr (.inr ⟨stay f2, _, by simp [g1], k3, k2⟩)⟩) (by
    rintro L fr Z ⟨hs, hJ⟩ all
    rcases hJ with ⟨f1, _⟩ | ⟨_, vA⟩ | ⟨_, LB, g1, g2, vB⟩
    · rw [all i (by omega)] at f1; cases f1
    · have := vA.done dA (fun k hk => all k (by rw [rA] at hk; exact hk))
      rw [rA, a1] at this
      exact .inl this
    · have := vB.done dB (fun k hk => by
        rw [rA] at hk
        rw [g2 k hk]; exact all _ (Ou hi hk))
      rw [rA, b1] at this
      exact .inr this) ops.size t (Array.replicate ops.size false) [] fr Z ⟨Array.size_replicate, .inl ⟨r0 i (by omega), r0 (i + 1) hi, begins dA a0, begins dB b0⟩⟩ (by rw [Array.toList_replicate, List.count_replicate]; split <;> omega)
  refine ⟨r, ?_, h3⟩
  unfold Region.linearise
  rw [h1]
  simpa using h2
def tw2 (π:Nat->Nat) (s d k:Nat) (o:Oper):Oper:={ o with after:=((o.after.toList.map λe:Edge=>({ e with on:=π e.on }:Edge))++if k=d then [(⟨s,.data⟩:Edge)] else []).toArray }
def perm (π ρ:Nat->Nat) (s d:Nat) (ops:Array Oper):Array Oper:=match ops[0]? with
 |none=>#[]
 |some x=>((List.range ops.size).map λk=>tw2 π s d k (ops.getD (ρ k) x)).toArray
end
end
section
def rZ (P:Program) (c:Code) (Q:Exit->Act->World->Prop) (a:Act) (w:World):Prop:=∀b k cs,∃e a' w',Q e a' w'/\Arrives P (lone (b.at a (.code c::.inLoop c::k)) cs w) b k cs e a' w'
section
variable {P:Program}{Q:Exit->Act->World->Prop}{a:Act}{w:World}{c:Code}
theorem GZ (h:rZ P c Q a w):(Code.loop c).wp P Q a w:=λb k cs=>by
 obtain⟨e,a',w',hq,harr⟩:=h b k cs
 exact⟨e,a',w',hq,.of_steps (.one step_loop) harr⟩
theorem Bg (h:c.wp P (Exit.then (rZ P c Q) Q) a w):rZ P c Q a w:=λb k cs=>by
 obtain⟨e,a₁,w₁,hq,harr⟩:=h b (.inLoop c::k) cs
 cases e with
 |normal=>
  obtain⟨e₂,a₂,w₂,hq₂,harr₂⟩:=hq b k cs
  exact⟨e₂,a₂,w₂,hq₂,.of_steps (Steps.trans harr (.one step_inLoop)) harr₂⟩
 |exit id=>exact⟨_,a₁,w₁,hq,.pass (x:=.inLoop c) rfl (λ_ _=>.inl (by simp)) harr⟩
 |goto l=>exact⟨_,a₁,w₁,hq,.pass (x:=.inLoop c) rfl (λ_ _=>.inl (by simp)) harr⟩
 |ret=>exact⟨_,a₁,w₁,hq,.pass (x:=.inLoop c) rfl (λ_ _=>.inl (by simp)) harr⟩
 |panic ch=>exact⟨_,a₁,w₁,hq,.pass (x:=.inLoop c) rfl (λ_ _=>.inl (by simp)) harr⟩
 |outgrown=>exact⟨_,a₁,w₁,hq,.pass (x:=.inLoop c) rfl (λ_ _=>.inl (by simp)) harr⟩
theorem tX:∀(n:Nat) {a:Act}{w:World},Code.rounds P c Q n a w->rZ P c Q a w
 |0,_,_,h=>h.elim
 |n+1,a,w,h=>by
  rw[rounds_succ]at h
  refine Bg (wp_mono h ?_)
  intro e a w hq
  cases e with
  |normal=>exact tX n hq
  |_=>exact hq
end
inductive BR (E:Env):Code->Fr->Sg->(X->Fr->Sg->Prop)->Prop
 |run {c:Code}{fr:Fr}{Z:Sg}{Q:X->Fr->Sg->Prop} (n:Nat) (x:X) (fr':Fr) (σ':Sg):ev E n c fr Z=some (x,fr',σ')->Q x fr' σ'->BR E c fr Z Q
 |seq {a b:Code}{fr:Fr}{Z:Sg}{Q:X->Fr->Sg->Prop} (Q1:X->Fr->Sg->Prop):BR E a fr Z Q1->(∀x fr Z,Q1 x fr Z->x≠.normal->Q x fr Z)->(∀fr Z,Q1 .normal fr Z->BR E b fr Z Q)->BR E (.seq a b) fr Z Q
 |yes {o:Operand}{a b:Code}{fr:Fr}{Z:Sg}{Q:X->Fr->Sg->Prop}:aT fr o=some (.bool true)->BR E a fr Z Q->BR E (.cond o a b) fr Z Q
 |no {o:Operand}{a b:Code}{fr:Fr}{Z:Sg}{Q:X->Fr->Sg->Prop}:aT fr o=some (.bool false)->BR E b fr Z Q->BR E (.cond o a b) fr Z Q
 |block {id:Nat}{c:Code}{fr:Fr}{Z:Sg}{Q:X->Fr->Sg->Prop} (Q1:X->Fr->Sg->Prop):BR E c fr Z Q1->(∀x fr Z,Q1 x fr Z->x≠.exit id->Q x fr Z)->(∀fr Z,Q1 (.exit id) fr Z->Q .normal fr Z)->BR E (.block id c) fr Z Q
 |loop {c:Code}{fr:Fr}{Z:Sg}{Q:X->Fr->Sg->Prop} (Q1:X->Fr->Sg->Prop):BR E c fr Z Q1->(∀x fr Z,Q1 x fr Z->x≠.normal->Q x fr Z)->(∀fr Z,Q1 .normal fr Z->BR E (.loop c) fr Z Q)->BR E (.loop c) fr Z Q
 |drawn {id:Nat}{ops:Array Oper}{fr:Fr}{Z:Sg}{Q:X->Fr->Sg->Prop} (n:Nat) (frz:Fz) (S:List (Fr × Sg)):(∀t,∃q r:Fr × Sg,r∈S/\GD E (ev E n) frz ops (Region.linearise .any ops t) fr Z=some q/\q.2=r.2/\q.1.n=r.1.n/\∀u,q.1.get u=r.1.get u)->(∀r,r∈S->Q .normal r.1 r.2)->BR E (.region id ops true) fr Z Q
theorem Tq {E:Env}{id:Nat}{ops:Array Oper}{fr:Fr}{Z:Sg}{Q:X->Fr->Sg->Prop} (n i:Nat) (frz:Fz) (ra rb:Fr × Sg)(h1:i+1<ops.size)(h2:∀o∈ops.toList,o.guard=none)(h3:oJ 0 ops.toList=true)(h4:eL E (Ax.two _root_.id ops i)=frz)(h5:eL E (Ax.two (sw i) ops i)=frz)
  (h6:bG E (ev E n) (Ax.two _root_.id ops i) fr Z=some ra)(h7:bG E (ev E n) (Ax.two (sw i) ops i) fr Z=some rb)(h8:Q .normal ra.1 ra.2)(h9:Q .normal rb.1 rb.2):BR E (.region id ops true) fr Z Q:=by
 refine .drawn n frz [ra,rb] (λt=>?_) (λr hr=>?_)
 ·obtain⟨q,q1,q2 | q2⟩:=Qx h1 h2 h3 h6 h7 h4 h5 t
  ·exact⟨q,ra,by simp,q1,q2⟩
  ·exact⟨q,rb,by simp,q1,q2⟩
 ·simp only[By,br,dz]at hr
  rcases hr with rfl | rfl
  ·exact h8
  ·exact h9
section
variable {P:Program}{E:Env}
theorem NC (he:cQ P E)(hfs:kT P E)(hmix:P.follows .mixedOrders=true) {code:Code}{fr:Fr}{Z:Sg}{Q:X->Fr->Sg->Prop}(h:BR E code fr Z Q) :
  (∀(c:Cx) (a:Act),SR E c->c.Z=Z->FR c fr a.tmps->a.defers=[]->code.wp P (xH E c Q) a c.w) /\
  (∀c1,code=.loop c1->∀(c:Cx) (a:Act),SR E c->c.Z=Z->FR c fr a.tmps->a.defers=[]->∀c0,Ext c0 c->rZ P c1 (xH E c0 Q) a c.w):=by
 induction h with
 |run n x fr' σ' h hq=>
  refine⟨λc a hs hσ hf hd=>wp_mono ((pW he hfs hmix n).1 _ _ _ _ _ _ h c a hs hσ hf hd) λe a w hp=>⟨x,fr',σ',hq,hp⟩,?_⟩
  rintro c1 rfl c a hs hσ hf hd c0 hx
  have:=tX n ((pW he hfs hmix n).2 _ _ _ _ _ _ h c a hs hσ hf hd c0 hx)
  intro b k cs
  obtain⟨e,a',w',hp,har⟩:=this b k cs
  exact⟨e,a',w',⟨x,fr',σ',hq,hp⟩,har⟩
 | @seq a b fr Z Q Q1 h1 h2 h3 ih1 ih3=>
  refine⟨λc act hs hσ hf hd=>?_,λc1 hc=>by cases hc⟩
  refine wp_seq (wp_mono (ih1.1 c act hs hσ hf hd) ?_)
  rintro e a1 w1 ⟨x,fr1,σ1,hq,hx1,hd1,c',rfl,hσ1,k1,k2,k3⟩
  cases x with
  |normal=>
   cases hx1
   exact wp_mono ((ih3 _ _ hq).1 c' a1 k2 hσ1 k3 hd1) λe a w hp=>hp.trans k1
  |exit id=>cases hx1;exact⟨.exit id,fr1,σ1,h2 _ _ _ hq (by simp),rfl,hd1,c',rfl,hσ1,k1,k2,k3⟩
  |ret=>cases hx1;exact⟨.ret,fr1,σ1,h2 _ _ _ hq (by simp),rfl,hd1,c',rfl,hσ1,k1,k2,k3⟩
 |yes hx _ ih=>exact⟨λc a hs hσ hf hd=>wp_cond_true (aN hf hx).gN (ih.1 c a hs hσ hf hd),λc1 hc=>by cases hc⟩
 |no hx _ ih=>exact⟨λc a hs hσ hf hd=>wp_cond_false (aN hf hx).gN (ih.1 c a hs hσ hf hd),λc1 hc=>by cases hc⟩
 | @block id c fr Z Q Q1 h1 h2 h3 ih1=>
  refine⟨λc act hs hσ hf hd=>?_,λc1 hc=>by cases hc⟩
  refine wp_block (wp_mono (ih1.1 c act hs hσ hf hd) ?_)
  rintro e a1 w1 ⟨x,fr1,σ1,hq,hx1,hp⟩
  cases x with
  |normal=>cases hx1;exact⟨.normal,fr1,σ1,h2 _ _ _ hq (by simp),rfl,hp⟩
  |ret=>cases hx1;exact⟨.ret,fr1,σ1,h2 _ _ _ hq (by simp),rfl,hp⟩
  |exit id'=>
   cases hx1
   simp only[Exit.inBlock]
   split
   ·rename_i heq
    subst heq
    exact⟨.normal,fr1,σ1,h3 _ _ hq,rfl,hp⟩
   ·rename_i heq
    exact⟨.exit id',fr1,σ1,h2 _ _ _ hq (λh=>heq (by injection h)),rfl,hp⟩
 | @loop c fr Z Q Q1 h1 h2 h3 ih1 ih3=>
  have key:∀(d:Cx) (a:Act),SR E d->d.Z=Z->FR d fr a.tmps->a.defers=[]->∀c0,Ext c0 d->rZ P c (xH E c0 Q) a d.w:=by
   intro d a hs hσ hf hd c0 hx
   refine Bg (wp_mono (ih1.1 d a hs hσ hf hd) ?_)
   rintro e a1 w1 ⟨x,fr1,σ1,hq,hx1,hd1,c',rfl,hσ1,k1,k2,k3⟩
   cases x with
   |normal=>
    cases hx1
    exact (ih3 _ _ hq).2 c rfl c' a1 k2 hσ1 k3 hd1 c0 (hx.trans k1)
   |exit id=>cases hx1;exact⟨.exit id,fr1,σ1,h2 _ _ _ hq (by simp),rfl,hd1,c',rfl,hσ1,hx.trans k1,k2,k3⟩
   |ret=>cases hx1;exact⟨.ret,fr1,σ1,h2 _ _ _ hq (by simp),rfl,hd1,c',rfl,hσ1,hx.trans k1,k2,k3⟩
  refine⟨λd a hs hσ hf hd=>GZ (key d a hs hσ hf hd d (Ext.refl d)),?_⟩
  intro c1 hc
  injection hc with hc
  subst hc
  exact key
 | @drawn id ops fr Z Q n frz S hall hQ=>
  refine⟨λc a hs hσ hf hd=>?_,λc1 hc=>by cases hc⟩
  subst hσ
  have each:∀t,∃frq:Fr,∃r:Fr × Sg,Q .normal r.1 r.2/\(frq.n=r.1.n/\∀u,frq.get u=r.1.get u)/\wpOps P ops (Post E c .normal frq r.2) (Region.schedule (P.follows .mixedOrders) ops t) a { c.w with drawn:=c.w.drawn+1 }:=by
   intro t
   rw[hmix]
   simp only[Region.schedule,Bool.true_or,b9]
   obtain⟨⟨frq,σq⟩,r,hr,q1,q2,q3,q4⟩:=hall t
   dsimp only at q2 q3 q4
   subst q2
   exact⟨frq,r,hQ r hr,⟨q3,q4⟩,oQ (c:=c.drew) he hfs (pW he hfs hmix n).1 _ (Cx.wN hs) (FR.mono c.kG hf) hd q1 c c.kG⟩
  intro b k cs
  obtain⟨frq,r,hq,⟨q3,q4⟩,hw⟩:=each (c.w.tape c.w.drawn (.order b.fn id))
  obtain⟨e,a',w',⟨e1,e2,d,e3,e4,e5,e6,e7⟩,rr⟩:=wp_ops _ a _ hw b k cs
  exact⟨e,a',w',⟨.normal,r.1,r.2,hq,e1,e2,d,e3,e4,e5,e6,by rw[<- q3];exact e7.1,λt v hv=>e7.2 t v (by rw[q4];exact hv)⟩,.of_steps (.one step_region_draw) rr⟩
def Mb (E:Env) (F:Fn) (args:List V) (Z:Sg) (R:V->Sg->Prop):Prop:=
 ∃fr,Fr.init F.ntmps args=some fr/\BR E F.code fr Z λx fr Z=>(x=.normal\/x=.ret)/\∃vs,results E fr Z F.results=some vs/\R (match vs with | [v]=>v | vs=>.gB vs) Z
theorem Ee (he:cQ P E)(hfs:kT P E)(hmix:P.follows .mixedOrders=true) {f:Nat}{F:Fn}(hF:E.fn f=some F) {c:Cx}(hs:SR E c) {vs:List V}{xs:List Value}(hv:fM c vs xs) {R:V->Sg->Prop}
  (h:Mb E F vs c.Z R):Calls P f xs.toArray c.w λe w'=>∃x v σ',e=.returned x/\R v σ'/\jW E c v σ' x w':=by
 obtain⟨fn,h1,h2,h3,h4,h5⟩:=hfs.fn f F hF
 obtain⟨fr0,hfr0,h⟩:=h
 refine calls_of_wp h1 h2 ?_
 have:=(NC he hfs hmix h).1 c { tmps:=xs.toArray++Array.replicate (fn.ntmps-xs.toArray.size) undef,defers:=[] } hs rfl (by
  have:=FR.init hv hfr0
  simpa [h3]using this) rfl
 refine wp_mono this ?_
 rintro e a w ⟨x,fr1,σ1,⟨hq1,us,hu,hR⟩,hx,hd,c',rfl,rfl,k1,k2,k3⟩
 have fin:a.defers=[]/\∃v',(Go.results fn a.tmps).run P c'.w=.ok v' c'.w/\∃x v σ',Ending.returned v'=.returned x/\R v σ'/\jW E c v σ' x c'.w:=by
  refine⟨hd,?_⟩
  obtain⟨ys,g1,g2⟩:=jE he k2 k3 hu
  have run:∀v',(if h:ys.toArray.size=1 then ys.toArray[0] else .tuple ys.toArray)=v'->(Go.results fn a.tmps).run P c'.w=.ok v' c'.w:=by
   rintro v' rfl
   rw[sK,nt,h4]
   simp only[Sem.run_bind,Sem.run_map]
   rw[g1]
   simp
  cases g2 with
  |nil=>exact⟨_,run _ rfl,_,_,_,rfl,hR,c',rfl,rfl,k1,k2,.gB [] [] .nil⟩
  |cons u y us ys hy hr=>
   cases hr with
   |nil=>exact⟨y,run _ (by simp),_,_,_,rfl,hR,c',rfl,rfl,k1,k2,hy⟩
   |cons u' y' us ys hy' hr=>
    refine⟨.tuple (y::y'::ys).toArray,run _ ?_,_,_,_,rfl,hR,c',rfl,rfl,k1,k2,.gB _ _ (.cons _ _ _ _ hy (.cons _ _ _ _ hy' hr))⟩
    rw[dif_neg (by simp)]
 rcases hq1 with rfl | rfl
 ·cases hx;exact fin
 ·cases hx;exact fin
theorem Hh (he:cQ P E)(hfs:kT P E)(hmix:P.follows .mixedOrders=true) {f:Nat}{F:Fn}(hF:E.fn f=some F) {s:List V->Option V}
  (h:∀vs v,s vs=some v->Mb E F vs [] λu Z=>bW Z E.ty false u=some v):fL P E f s:=by
 intro d vs xs v hd hs hv hm
 have hn:=h vs v hm
 refine qR hfs hF ?_
 have hi:=rP hs []
 have hvi:fM (d.inner (d.gD [])) vs xs:=by
  refine fM.mono ?_ hv
  have ho:∀k,¬ d.own k:=by
   rintro k ⟨b,⟨o,ho,_⟩,_⟩
   rw[hd]at ho;cases ho
  have hanc:(d.inner (d.gD [])).nC=d.nC:=by
   funext k
   exact propext ⟨λh=>h.resolve_right (ho k),λh=>.inl h⟩
  exact⟨ae _,λk _ _=>⟨rfl,mY⟩,by rw[hd];exact ae _,λ_ _=>rfl,λ_ _=>rfl,λ_ _=>rfl,hanc,rfl,rfl,rfl⟩
 refine (Ee he hfs hmix hF hi hvi hn).mono ?_
 rintro e w' ⟨x,u,σ1,rfl,hR,d1,rfl,hσ,hx,hsd,hxv⟩
 rw[<- hσ]at hR
 obtain⟨g1,g2,g3⟩:=oP hs hx hsd hxv hR
 exact⟨x,rfl,(d.gD []).outer d1.w,rfl,hd,g1,g2,g3⟩
end
end
end Go.Ax
end
