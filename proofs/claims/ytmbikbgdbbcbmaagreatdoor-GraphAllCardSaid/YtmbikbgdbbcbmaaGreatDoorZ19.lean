/- Part 19 of the proof. -/
import Derived.Test.YtmbikbgdbbcbmaaGreatDoorY
import Derived.Test.YtmbikbgdbbcbmaaGreatDoorZ18
import Derived.Test.YtmbikbgdbbcbmaaGreatDoorZ17
import Derived.Test.YtmbikbgdbbcbmaaGreatDoorZ15
import Derived.Test.YtmbikbgdbbcbmaaGreatDoorZ16
import Derived.Test.YtmbikbgdbbcbmaaGreatDoorZ2
import Derived.Test.YtmbikbgdbbcbmaaGreatDoorZ14
set_option maxHeartbeats 8000000
set_option linter.unusedVariables false
set_option maxRecDepth 100000
open Nat (reduceEqDiff reduceLT reduceAdd reduceLeDiff reduceMul)
open Int (reduceNeg reduceLE)
section
namespace Go.Proofs.YtmbikbgdbbcbmaaGreatDoor
open Go Go.Ax Go.AxS
section
structure GV (E:Env):Prop where
 hs50:E.hspec 50=none
 sp50:E.spec 50=none
 fn50:E.fn 50=some (aA Tryz.f50)
 md50:E.mode 50=.fD
 hs52:E.hspec 52=none
 sp52:E.spec 52=none
 fn52:E.fn 52=some (aA Tryz.f52)
 md52:E.mode 52=.fD
 hs48:E.hspec 48=none
 sp48:E.spec 48=none
 fn48:E.fn 48=some (aA Tryz.f48)
 md48:E.mode 48=.fD
 hs47:E.hspec 47=none
 sp47:E.spec 47=none
 fn47:E.fn 47=some (aA Tryz.f47)
 md47:E.mode 47=.fD
 hs55:E.hspec 55=none
 sp55:E.spec 55=none
 fn55:E.fn 55=some (aA Tryz.f55)
 md55:E.mode 55=.fD
 Ui:E.hspec 113=none
 Ub:E.spec 113=none
 Uj:E.fn 113=some (aA Tryz.f113)
 Ug:E.mode 113=.fD
 abC:aI E (cutAt [1,1,0] (aA Tryz.f50).code)=true
 abA:aI E (cutAt [1,1,0] (aA Tryz.f52).code)=true
 abG:aI E (cutAt [1,0,2,0] (aA Tryz.f48).code)=true
 abF:aI E (cutAt [1,0,2,1,1,1,1,0] (aA Tryz.f48).code)=true
section
variable {E:Env}{Z:Sg}{K:V->Sg->Prop}
def Cc (v:V) (l:List aJ):Prop:=(v=.aB/\l=[])\/∃full,v=.bT false (l.map row) full
theorem Cc.lv {v:V}{l:List aJ}(h:Cc v l):Lb.LV v l:=h.imp id λ⟨f,e⟩=>⟨false,f,e⟩
def A1 (ks:List aJ):Prop:=ks.length<=1000000/\∀k∈ks,k.2.length<=9223372036854775807
theorem EF:∀l:List aJ,Ax.rows 2 l.length (l.flatMap row)=l.map row
 | []=>rfl
 |x::l=>by
  rw[aa,j7,Ax.rows,bj]
  have h1:(row x++l.flatMap row).take 2=row x:=rfl
  have h2:(row x++l.flatMap row).drop 2=l.flatMap row:=rfl
  rw[h1,h2,EF l]
theorem MI (hl:Lb.cK E) {Z:Sg}{j:Nat}{l:List aJ}{ex:Bool}(hj:Z[j]?=some (.cells 51 (l.flatMap row) ex)):∃v',bW Z E.ty false (.sl j 0 l.length none)=some v'/\Cc v' l:=by
 have hlen:(l.flatMap row).length=l.length*2:=Lb.kF l
 obtain⟨full,e⟩:=CA (g:=false) (n:=l.length) hj hl.cL (show l.length*2<=_ by omega) (λc hc=>by
  rw[show (l.flatMap row).take (l.length*2)=l.flatMap row from ak (by omega)]at hc
  obtain⟨x,-,hx⟩:=ik.1 hc
  unfold row at hx
  simp only[By,br,dz]at hx
  rcases hx with rfl | rfl <;> exact⟨rfl,rfl⟩)
 refine⟨_,e,.inr ⟨full,?_⟩⟩
 show V.bT false (Ax.rows 2 l.length ((l.flatMap row).take (l.length*2))) full=_
 rw[ak (by omega),EF]
theorem wX (hl:Lb.cK E) {Z σ':Sg}{r:V}{l:List aJ}(h:Lb.Own Z σ' r l):∃v',bW σ' E.ty false r=some v'/\Cc v' l:=by
 rcases h with⟨rfl,rfl⟩ | ⟨j,-,rfl,hj⟩
 ·exact⟨.aB,rfl,.inl ⟨rfl,rfl⟩⟩
 ·exact MI hl hj
theorem JD {ks:List aJ}(hn:ks.Nodup)(hs:A1 ks) {j:Nat}{g:Bool}(hj:Z[j]?=some (.cells 88 [.imp g (Lb.mP ks)] true)) :
  mZ 51 [154] [] 118 [.fn 154 [] [.ref j 0],.fn 118 [] []] Z=some (if ks=[] then (.aB,Z) else (.sl Z.length 0 ks.length none,Z++[.cells 51 ((setOf ks).flatMap row) false])):=by
 have hk:keysOf Z [154] [] (.fn 154 [] [.ref j 0])=some (ks.map row):=by
  unfold keysOf
  simp only[hj]
  exact au some (Lb.MP ks)
 show wH 51 [154] [] mX uY (.fn 154 [] [.ref j 0]) Z=_
 unfold wH
 rw[hk]
 cases hks:ks with
 |nil=>rfl
 |cons k r=>
  have ha:=Lb.DS ks hs.2
  have hk2:=MH hn
  have hlen:=hs.1
  rw[hks]at ha hk2 hlen
  rw[bj]at ha hk2 ⊢
  rw[ay (by simp)]
  show (match allRows mX (row k::r.map row),Nat.ble (row k::r.map row).length 1000000 with
   |true,true=>some (V.sl Z.length 0 (row k::r.map row).length none,Z++[O.cells 51 (lP uY (row k::r.map row)).flatten false])
   |_,_=>none)=_
  rw[ha,nr (by simpa using hlen),hk2,Lb.Iv]
  simp
theorem TV (hl:Lb.cK E)(h:bJ E) {g:Bool}{es:List (V × V)}:aC E 117 [.imp g es] Z K=K (.fn 154 [] [.ref Z.length 0]) (Z++[.cells 88 [.imp g es] true]):=by
 refine aC.of ?_
 rw[eD hl.aac hl.XP hl.aaZ hl.Zj,aX (by kernel_rfl)]
 simp only[aA,Tryz.f117,KP,↓reduceIte,reduceEqDiff,reduceLT,hl.yP]
theorem Rf (hl:Lb.cK E)(h:bJ E) {g g':Bool}{ks:List aJ}(hn:ks.Nodup)(hsm:A1 ks):aC E 65 [.dH g [.imp g' (Lb.mP ks)]] Z λr σ'=>Lb.Own Z σ' r (setOf ks):=by
 rw[eD hl.hs65 hl.sp65 hl.fn65 hl.md65,aX (by kernel_rfl)]
 have kk:=cH λK=>TV (Z:=Z) (K:=K) hl h (g:=g') (es:=Lb.mP ks)
 simp only[aA,Tryz.f65,KP,Ax.loadAt,↓reduceIte,reduceLT,reduceCtorEq,hl.yP,hl.xL,hl.On,kY,kk]
 have hj:(Z++[O.cells 88 [.imp g' (Lb.mP ks)] true])[Z.length]?=some (.cells 88 [.imp g' (Lb.mP ks)] true):=aR
 have hsk:=JD hn hsm hj
 unfold FF
 rw[sD hl.aad,hsk]
 by_cases hks:ks=[]
 ·rw[b8 hks]
  simp only[dO]
  simp only[KP,↓reduceIte,reduceLT]
  subst hks
  exact .inl ⟨rfl,rfl⟩
 ·rw[ay hks]
  simp only[dO]
  simp only[KP,↓reduceIte,reduceLT]
  refine .inr ⟨_,?_,by rw[F5 hn],?_⟩
  ·rw[an];omega
  ·exact aR
theorem WB (hl:Lb.cK E)(h:bJ E) {g g':Bool}{ks:List aJ} (x:aJ):aC E 63 [.dH g [.imp g' (Lb.mP ks)],.agg [.bool x.1,.str x.2]] Z K=K (.bool (decide (x∈ks))) Z:=by
 refine aC.of ?_
 have hi:Ax.bF (.dH g [.imp g' (Lb.mP ks)])=true:=rfl
 have e1:=cU (Z:=Z) (ty:=E.ty) hi (cF hi)
 have e2:aQ Z E.ty true (.agg [.bool x.1,.str x.2])=some (.agg [.bool x.1,.str x.2]):=rfl
 have d1:=hl.abz
 simp only[aA,Tryz.f63,cutAt,ag]at d1
 rw[aH hl.hs63 hl.sp63 hl.fn63 hl.md63 (args':=[.dH g [.imp g' (Lb.mP ks)],.agg [.bool x.1,.str x.2]]) (by simp only[aU,e1,e2]),aX (by kernel_rfl)]
 have hk:=Lb.rO hl x.1 x.2
 have hf:=Lb.CX hl x ks
 by_cases hx:x∈ks
 ·simp only[aA,Tryz.f63,KP,Ax.loadAt,↓reduceIte,reduceEqDiff,reduceLT,reduceAdd,reduceCtorEq,h.uC,h.cL,hl.yP,hl.xL,hl.On,kY,aK d1,a_,Ax.lookup,hk,Ax.entriesOf,hf,hx]
  exact rfl
 ·simp only[aA,Tryz.f63,KP,Ax.loadAt,↓reduceIte,reduceEqDiff,reduceLT,reduceAdd,reduceCtorEq,h.uC,h.cL,hl.yP,hl.xL,hl.On,kY,aK d1,a_,Ax.lookup,hk,Ax.entriesOf,hf,hx]
  exact rfl
end
end
section
section
variable {E:Env}{Z:Sg}{K:V->Sg->Prop}
def dV (rs:List aD):List aJ:=setOf (rs.map g_++(rs.flatMap eH).flatMap λp=>[p.1,p.2])
def iK (rs:List aD) (x:aJ):List aJ:=setOf (((rs.flatMap eH).filter λp=>decide (p.1=x)).map Prod.snd)
def wV (rs:List aD) (x:aJ):List aJ:=setOf (((rs.flatMap eH).filter λp=>decide (p.2=x)).map Prod.fst)
theorem jI {rs:List aD}{x w:aJ}:w∈iK rs x ↔ (x,w)∈rs.flatMap eH:=by
 unfold iK
 rw[jH,cg]
 constructor
 ·rintro⟨⟨a,b⟩,h1,rfl⟩
  obtain⟨h1,h2⟩:=lu.1 h1
  rw[<- dx h2]
  exact h1
 ·exact λh1=>⟨(x,w),lu.2 ⟨h1,AT rfl⟩,rfl⟩
theorem EY {rs:List aD}{x w:aJ}:w∈wV rs x ↔ (w,x)∈rs.flatMap eH:=by
 unfold wV
 rw[jH,cg]
 constructor
 ·rintro⟨⟨a,b⟩,h1,rfl⟩
  obtain⟨h1,h2⟩:=lu.1 h1
  rw[<- dx h2]
  exact h1
 ·exact λh1=>⟨(w,x),lu.2 ⟨h1,AT rfl⟩,rfl⟩
theorem uT {rs:List aD}{x:aJ}:x∈dV rs ↔ x∈rs.map g_\/∃p∈rs.flatMap eH,x=p.1\/x=p.2:=by
 unfold dV
 rw[jH,bw,ik]
 refine or_congr po (exists_congr λp=>and_congr po ?_)
 simp
theorem Cb (rs:List aD):Up (dV rs):=oZ _
theorem CV (rs:List aD) (x:aJ):Up (iK rs x):=oZ _
theorem Ck (rs:List aD) (x:aJ):Up (wV rs x):=oZ _
structure Fits (rs:List aD):Prop where
 ok:nN rs
 small:∀x∈rs,Small x
theorem uU {s:bD}(h:bL s=true):s.length<=40:=by
 unfold bL at h
 simp only[ah,IT]at h
 exact h.1.2
theorem J1 {s:bD}(h:bL s=true):s≠[]:=by
 rintro rfl
 revert h
 decide
theorem Fits.form {rs:List aD}(h:Fits rs):∀r∈rs,kW r=true:=λr hr=>by
 have h0:=h.ok.1
 unfold gU at h0
 cases hf:rs.find? (λr=>decide (bE r≠0)) with
 |some q=>
  rw[hf]at h0
  have:=List.find?_some hf
  exact absurd h0 (dx this)
 |none=>
  have:=jx.1 hf r hr
  have h1:bE r=0:=by
   refine Classical.byContradiction λhne=>this (AT hne)
  unfold bE at h1
  by_cases hq:kW r=false
  ·rw[b8 hq]at h1;cases h1
  ·simpa using hq
theorem Fits.names {rs:List aD}(h:Fits rs):∀r∈rs,bL r.name=true/\(∀f∈r.ins,bL f=true)/\∀f∈r.outs,bL f=true:=λr hr=>by
 have:=h.form r hr
 rw[E_]at this
 simp only[ah,dw]at this
 exact⟨this.1.1.1.1.1,this.1.1.1.2,this.1.1.2⟩
theorem Fits.pair {rs:List aD}(h:Fits rs) {p:aJ × aJ}(hp:p∈rs.flatMap eH):bL p.1.2=true/\bL p.2.2=true:=by
 obtain⟨r,hr,hp⟩:=ik.1 hp
 obtain⟨h1,h2,h3⟩:=h.names r hr
 unfold eH at hp
 rcases bw.1 hp with hp | hp
 ·obtain⟨f,hf,rfl⟩:=cg.1 hp
  exact⟨h1,h2 f hf⟩
 ·obtain⟨f,hf,rfl⟩:=cg.1 hp
  exact⟨h3 f hf,h1⟩
theorem Fits.lab {rs:List aD}(h:Fits rs) {x:aJ}(hx:x∈dV rs):bL x.2=true:=by
 rcases uT.1 hx with hx | ⟨p,hp,rfl | rfl⟩
 ·obtain⟨r,hr,rfl⟩:=cg.1 hx
  exact (h.names r hr).1
 ·exact (h.pair hp).1
 ·exact (h.pair hp).2
theorem Fits.len {rs:List aD}(h:Fits rs):rs.length<=40:=(wJ h.ok.1).len
theorem Fits.R9 {rs:List aD}(h:Fits rs):(rs.flatMap eH).length<=640:=by
 have:=pT rs h.small
 have:=h.len
 omega
section
variable {rs:List aD}{es0 es1:List (V × V)}{get:bD->Option V}{A:List aJ}{L3 L4:List dP}
theorem KH.all (hi:KH E rs es0 es1 get A L3 L4):setOf A=dV rs:=Hv λx=>by
 rw[hi.li.all,bw,ik]
 refine or_congr po (exists_congr λp=>and_congr po ?_)
 simp
theorem KH.Vb (hi:KH E rs es0 es1 get A L3 L4)(hf:Fits rs):A1 A:=by
 refine⟨?_,λk hk=>?_⟩
 ·have h1:=hi.li.Nc
  have h2:=hf.R9
  have h3:=hf.len
  rw[az]at h1
  omega
 ·have h1:k∈dV rs:=by rw[<- hi.all,jH];exact hk
  have:=uU (hf.lab h1)
  omega
theorem Gs {L:List dP}{e:dP}{x:aJ}(he:bO L x=some e):rN L x=e.ks:=by unfold rN;rw[he]
theorem LJ {L:List dP}{x:aJ}(he:bO L x=none):rN L x=[]:=by unfold rN;rw[he]
theorem KH.need (hi:KH E rs es0 es1 get A L3 L4) (x:aJ):setOf (rN L3 x)=iK rs x:=xJ (oZ _) (CV rs x) λw=>by rw[jH,hi.li.need,jI]
theorem KH.user (hi:KH E rs es0 es1 get A L3 L4) (x:aJ):setOf (rN L4 x)=wV rs x:=xJ (oZ _) (Ck rs x) λw=>by rw[jH,hi.li.user,EY]
theorem KH.Vd (hi:KH E rs es0 es1 get A L3 L4)(hf:Fits rs) {e:dP}{x:aJ}(he:bO L3 x=some e):A1 e.ks:=by
 refine⟨?_,λk hk=>?_⟩
 ·have h1:=hi.li.P7 e (gM he).1
  have h2:=hf.R9
  omega
 ·rw[<- Gs he,hi.li.need]at hk
  have h2:k.2.length<=40:=uU (hf.pair hk).2
  omega
theorem KH.Vc (hi:KH E rs es0 es1 get A L3 L4)(hf:Fits rs) {e:dP}{x:aJ}(he:bO L4 x=some e):A1 e.ks:=by
 refine⟨?_,λk hk=>?_⟩
 ·have h1:=hi.li.P6 e (gM he).1
  have h2:=hf.R9
  omega
 ·rw[<- Gs he,hi.li.user]at hk
  have h2:k.2.length<=40:=uU (hf.pair hk).1
  omega
end
theorem CZ (hl:Lb.cK E) (x:aJ):∀L:List dP,iR (fB E 51) (pO x) (L.map vJ)=some ((L.find? λe=>decide (x=e.key)).map λe=>uD e.ks)
 | []=>rfl
 |e::L=>by
  show (match fB E 51 (.agg [.bool x.1,.str x.2]) (.agg [.bool e.key.1,.str e.key.2]) with
   |some true=>some (some (uD e.ks))
   |some false=>iR (fB E 51) (pO x) (L.map vJ)
   |none=>none)=_
  rw[Lb.rR hl,jv]
  by_cases h:x=e.key
  ·rw[AT (show ((x.1,x.2):aJ)=(e.key.1,e.key.2) from h)];rfl
  ·rw[AI (show ¬ ((x.1,x.2):aJ)=(e.key.1,e.key.2) from h)]
   exact CZ hl x L
theorem E2 (h':qO E)(hl:Lb.cK E) {Z:Sg}{g:Bool}{L:List dP} (x:aJ):lookup E Z 98 (.imp g (L.map vJ)) (.agg [.bool x.1,.str x.2]) false=some (match bO L x with | some e=>uD e.ks | none=>.fJ):=by
 have hk:=Lb.rO hl x.1 x.2
 unfold Ax.lookup
 simp only[h'.xK,hl.uB,hk,entriesOf,di,ai,aq]
 have:=CZ hl x L
 unfold pO at this
 rw[this]
 unfold bO
 cases L.find? λe=>decide (x=e.key) <;> rfl
theorem abR (h:bJ E)(h':qO E)(hl:Lb.cK E) (q:GV E) {ks:List aJ}(hn:ks.Nodup)(hs:A1 ks):aC E 113 [uD ks] Z λv σ'=>σ'=Z/\Cc v (setOf ks):=by
 have hi:Ax.bF (uD ks)=true:=rfl
 have e1:=cU (Z:=Z) (ty:=E.ty) hi (cF hi)
 rw[aH q.Ui q.Ub q.Uj q.Ug (args':=[uD ks]) (by simp only[aU,e1]),aX (by kernel_rfl)]
 simp only[aA,Tryz.f113,KP,↓reduceIte,reduceLT,reduceCtorEq,hl.uB,hl.xL,hl.BA,kY,uD]
 refine aO (Rf hl h hn hs) ?_
 intro r σ' ho
 obtain⟨v',hv,hlv⟩:=wX hl ho
 simp only[KP,↓reduceIte,reduceLT,hv]
 exact hlv
theorem Uo (h:bJ E)(h':qO E)(hl:Lb.cK E) (q:GV E):aC E 113 [.fJ] Z λv σ'=>σ'=Z/\Cc v []:=by
 have e1:aQ Z E.ty true .fJ=some .fJ:=rfl
 rw[aH q.Ui q.Ub q.Uj q.Ug (args':=[.fJ]) (by simp only[aU,e1]),aX (by kernel_rfl)]
 simp only[aA,Tryz.f113,KP,↓reduceIte,reduceLT,reduceCtorEq,hl.uB,kY]
 exact .inl ⟨rfl,rfl⟩
theorem Q6 (h:bJ E)(h':qO E)(hl:Lb.cK E) (q:GV E) {g:V}{rs:List aD}(hg:Ji E rs g)(hf:Fits rs) (x:aJ):aC E 50 [g,.agg [.bool x.1,.str x.2]] Z λv σ'=>σ'=Z/\Cc v (iK rs x):=by
 obtain⟨es0,es1,get,A,L3,L4,rfl,hi⟩:=hg
 have him:Ax.bF (gV es0 es1 A L3 L4)=true:=rfl
 have e1:=cU (Z:=Z) (ty:=E.ty) him (cF him)
 have e2:aQ Z E.ty true (.agg [.bool x.1,.str x.2])=some (.agg [.bool x.1,.str x.2]):=rfl
 have d3:=q.abC
 simp only[aA,Tryz.f50,cutAt,ag]at d3
 rw[aH q.hs50 q.sp50 q.fn50 q.md50 (args':=[gV es0 es1 A L3 L4,.agg [.bool x.1,.str x.2]]) (by simp only[aU,e1,e2]),aX (by kernel_rfl)]
 have en:kY E 27 true (.dH false [.imp false es0,.imp false es1,uD A,.imp false (L3.map vJ),.imp false (L4.map vJ)]) .fJ=some false:=by unfold kY;rw[h'.G7]
 have lk:=λZ g=>E2 (Z:=Z) (g:=g) (L:=L3) h' hl x
 rw[<- hi.need]
 cases hk:bO L3 x with
 |none=>
  rw[hk]at lk
  rw[LJ hk]
  simp only[aA,Tryz.f50,KP,Ax.loadAt,↓reduceIte,reduceEqDiff,reduceLT,reduceAdd,reduceCtorEq,h.cL,h'.mR,h'.xK,gV,en,lk,aK d3,a_]
  refine aO (Uo h h' hl q) ?_
  rintro r σ' ⟨rfl,hr⟩
  rcases hr with⟨rfl,-⟩ | ⟨full,rfl⟩
  ·simp only[KP,↓reduceIte,reduceLT]
   exact .inl ⟨rfl,rfl⟩
  ·simp only[KP,↓reduceIte,reduceLT]
   exact .inr ⟨full,rfl⟩
 |some e=>
  rw[hk]at lk
  rw[Gs hk]
  simp only[aA,Tryz.f50,KP,Ax.loadAt,↓reduceIte,reduceEqDiff,reduceLT,reduceAdd,reduceCtorEq,h.cL,h'.mR,h'.xK,gV,en,lk,aK d3,a_]
  refine aO (abR h h' hl q (hi.k3 e (gM hk).1) (hi.Vd hf hk)) ?_
  rintro r σ' ⟨rfl,hr⟩
  rcases hr with⟨rfl,h0⟩ | ⟨full,rfl⟩
  ·simp only[KP,↓reduceIte,reduceLT]
   exact .inl ⟨rfl,h0⟩
  ·simp only[KP,↓reduceIte,reduceLT]
   exact .inr ⟨full,rfl⟩
theorem QZ (h:bJ E)(h':qO E)(hl:Lb.cK E) (q:GV E) {g:V}{rs:List aD}(hg:Ji E rs g)(hf:Fits rs) (x:aJ):aC E 52 [g,.agg [.bool x.1,.str x.2]] Z λv σ'=>σ'=Z/\Cc v (wV rs x):=by
 obtain⟨es0,es1,get,A,L3,L4,rfl,hi⟩:=hg
 have him:Ax.bF (gV es0 es1 A L3 L4)=true:=rfl
 have e1:=cU (Z:=Z) (ty:=E.ty) him (cF him)
 have e2:aQ Z E.ty true (.agg [.bool x.1,.str x.2])=some (.agg [.bool x.1,.str x.2]):=rfl
 have d3:=q.abA
 simp only[aA,Tryz.f52,cutAt,ag]at d3
 rw[aH q.hs52 q.sp52 q.fn52 q.md52 (args':=[gV es0 es1 A L3 L4,.agg [.bool x.1,.str x.2]]) (by simp only[aU,e1,e2]),aX (by kernel_rfl)]
 have en:kY E 27 true (.dH false [.imp false es0,.imp false es1,uD A,.imp false (L3.map vJ),.imp false (L4.map vJ)]) .fJ=some false:=by unfold kY;rw[h'.G7]
 have lk:=λZ g=>E2 (Z:=Z) (g:=g) (L:=L4) h' hl x
 rw[<- hi.user]
 cases hk:bO L4 x with
 |none=>
  rw[hk]at lk
  rw[LJ hk]
  simp only[aA,Tryz.f52,KP,Ax.loadAt,↓reduceIte,reduceEqDiff,reduceLT,reduceAdd,reduceCtorEq,h.cL,h'.mR,h'.xK,gV,en,lk,aK d3,a_]
  refine aO (Uo h h' hl q) ?_
  rintro r σ' ⟨rfl,hr⟩
  rcases hr with⟨rfl,-⟩ | ⟨full,rfl⟩
  ·simp only[KP,↓reduceIte,reduceLT]
   exact .inl ⟨rfl,rfl⟩
  ·simp only[KP,↓reduceIte,reduceLT]
   exact .inr ⟨full,rfl⟩
 |some e=>
  rw[hk]at lk
  rw[Gs hk]
  simp only[aA,Tryz.f52,KP,Ax.loadAt,↓reduceIte,reduceEqDiff,reduceLT,reduceAdd,reduceCtorEq,h.cL,h'.mR,h'.xK,gV,en,lk,aK d3,a_]
  refine aO (abR h h' hl q (hi.k4 e (gM hk).1) (hi.Vc hf hk)) ?_
  rintro r σ' ⟨rfl,hr⟩
  rcases hr with⟨rfl,h0⟩ | ⟨full,rfl⟩
  ·simp only[KP,↓reduceIte,reduceLT]
   exact .inl ⟨rfl,h0⟩
  ·simp only[KP,↓reduceIte,reduceLT]
   exact .inr ⟨full,rfl⟩
theorem Wv (h:bJ E)(h':qO E)(hl:Lb.cK E) (q:GV E) {g:V}{rs:List aD}(hg:Ji E rs g)(hf:Fits rs):aC E 47 [g] Z λv σ'=>σ'=Z/\Cc v (dV rs):=by
 obtain⟨es0,es1,get,A,L3,L4,rfl,hi⟩:=hg
 have him:Ax.bF (gV es0 es1 A L3 L4)=true:=rfl
 have e1:=cU (Z:=Z) (ty:=E.ty) him (cF him)
 rw[aH q.hs47 q.sp47 q.fn47 q.md47 (args':=[gV es0 es1 A L3 L4]) (by simp only[aU,e1]),aX (by kernel_rfl)]
 have en:kY E 27 true (.dH false [.imp false es0,.imp false es1,.dH false [.imp false (Lb.mP A)],.imp false (L3.map vJ),.imp false (L4.map vJ)]) .fJ=some false:=by unfold kY;rw[h'.G7]
 rw[<- hi.all]
 simp only[aA,Tryz.f47,KP,Ax.loadAt,↓reduceIte,reduceLT,reduceCtorEq,hl.uB,hl.xL,hl.BA,h'.mR,gV,uD,en]
 refine aO (Rf hl h hi.nA (hi.Vb hf)) ?_
 intro r σ' ho
 obtain⟨v',hv,hlv⟩:=wX hl ho
 simp only[KP,↓reduceIte,reduceLT,hv]
 exact hlv
end
end
section
section
variable {E:Env}{Z:Sg}{K:V->Sg->Prop}
def fW (rs:List aD) (f:bD):Option aD:=rs.find? λr=>decide (f∈r.outs)
def kindOf (rs:List aD) (x:aJ):Int:=if x∈dV rs then (if x.1=true then 1 else if (fW rs x.2).isSome=true then 2 else 3) else 0
theorem mD {rs:List aD}{f:bD}{r:aD}(h:fW rs f=some r):r∈rs/\f∈r.outs:=⟨List.mem_of_find?_eq_some h,by have:=List.find?_some h;exact dx this⟩
theorem Gk {rs:List aD}{f:bD}(h:fW rs f=none):∀r∈rs,f ∉ r.outs:=λr hr hf=>by
 have:=jx.1 h r hr
 exact this (AT hf)
theorem KH.get {rs:List aD}{es0 es1:List (V × V)}{get:bD->Option V}{A:List aJ}{L3 L4:List dP}(hi:KH E rs es0 es1 get A L3 L4)(hf:Fits rs) (f:bD):get f=(fW rs f).map λr=>V.str r.name:=by
 rcases hi.PO f with⟨h1,h2⟩ | ⟨n,⟨r,hr,hfr,rfl⟩,h2⟩
 ·rw[h1]
  cases hm:fW rs f with
  |none=>rfl
  |some r=>exact absurd ⟨r,(mD hm).1,(mD hm).2,rfl⟩ (h2 r.name)
 ·rw[h2]
  cases hm:fW rs f with
  |none=>exact absurd hfr (Gk hm r hr)
  |some r'=>
   have:=(wJ hf.ok.1).short.jN f r.name r'.name ⟨r,hr,hfr,rfl⟩ ⟨r',(mD hm).1,(mD hm).2,rfl⟩
   rw[this];rfl
theorem PY (h:bJ E) {Z:Sg}{x:V}{es:List (V × V)}{get:bD->Option V}(hx:entriesOf Z x=some es)(hs:SM E es get) (k:bD):lookup E Z 97 x (.str k) false=some (match get k with | some v=>v | none=>.str []):=by
 have hk:eB E 9 (.str k)=true:=by unfold eB;rw[h.cM]
 unfold Ax.lookup
 simp only[h.D4,h.cM,hk,hx,hs.2 k,di,ai,aq]
 cases get k <;> rfl
theorem TO (h:bJ E)(h':qO E)(hl:Lb.cK E) (q:GV E) {g:V}{rs:List aD}(hg:Ji E rs g)(hf:Fits rs) (x:aJ):aC E 48 [g,.agg [.bool x.1,.str x.2]] Z K=K (.int .i64 (kindOf rs x)) Z:=by
 refine aC.of ?_
 obtain⟨es0,es1,get,A,L3,L4,rfl,hi⟩:=hg
 have him:Ax.bF (gV es0 es1 A L3 L4)=true:=rfl
 have e1:=cU (Z:=Z) (ty:=E.ty) him (cF him)
 have e2:aQ Z E.ty true (.agg [.bool x.1,.str x.2])=some (.agg [.bool x.1,.str x.2]):=rfl
 have d1:=q.abG
 simp only[aA,Tryz.f48,cutAt,ag]at d1
 have d5:=q.abF
 simp only[aA,Tryz.f48,cutAt,ag]at d5
 rw[aH q.hs48 q.sp48 q.fn48 q.md48 (args':=[gV es0 es1 A L3 L4,.agg [.bool x.1,.str x.2]]) (by simp only[aU,e1,e2]),aX (by kernel_rfl)]
 have en:kY E 27 true (.dH false [.imp false es0,.imp false es1,.dH false [.imp false (Lb.mP A)],.imp false (L3.map vJ),.imp false (L4.map vJ)]) .fJ=some false:=by unfold kY;rw[h'.G7]
 have kh:=λ(U:Sg)=>cH λK=>WB (Z:=U) (K:=K) hl h (g:=false) (g':=false) (ks:=A) x
 have hA:decide (x∈A)=decide (x∈dV rs):=by rw[<- hi.all];simp only[jH]
 rw[hA]at kh
 have lk:=λZ=>PY (Z:=Z) (x:=.imp false es1) h rfl hi.sm x.2
 rw[hi.get hf]at lk
 have s0:∀a b:bD,tU .neq a b=some (.bool (!Ax.seq a b)):=λa b=>rfl
 unfold kindOf
 by_cases hx:x∈dV rs
 ·rw[AT hx]at kh
  rw[b8 hx]
  cases hb:x.1 with
  |true=>
   rw[hb]at kh
   simp only[aA,Tryz.f48,KP,Ax.loadAt,↓reduceIte,reduceEqDiff,reduceLT,reduceAdd,reduceCtorEq,h.uC,h.cL,hl.uB,hl.xL,hl.BA,h'.mR,gV,uD,en,kh,aK d1,a_]
   exact rfl
  |false=>
   rw[hb]at kh
   cases hm:fW rs x.2 with
   |none=>
    rw[hm]at lk
    have z:Ax.seq ([]:bD) []=true:=rfl
    simp only[aA,Tryz.f48,KP,Ax.loadAt,↓reduceIte,reduceEqDiff,reduceLT,reduceAdd,reduceCtorEq,h.uC,h.cM,h.cL,h.D4,kX,hl.uB,hl.xL,hl.BA,h'.mR,gV,uD,en,kh,lk,s0,z,aK d1,aK d5,a_]
    exact rfl
   |some r=>
    rw[hm]at lk
    have z:Ax.seq r.name []=false:=fU (J1 (hf.names r (mD hm).1).1)
    simp only[aA,Tryz.f48,KP,Ax.loadAt,↓reduceIte,reduceEqDiff,reduceLT,reduceAdd,reduceCtorEq,h.uC,h.cM,h.cL,h.D4,kX,hl.uB,hl.xL,hl.BA,h'.mR,gV,uD,en,kh,lk,s0,z,aK d1,aK d5,a_]
    exact rfl
 ·rw[AI hx]at kh
  rw[ay hx]
  simp only[aA,Tryz.f48,KP,Ax.loadAt,↓reduceIte,reduceEqDiff,reduceLT,reduceAdd,reduceCtorEq,h.cL,hl.uB,hl.xL,hl.BA,h'.mR,gV,uD,en,kh,aK d1,a_]
  exact rfl
theorem NX (h:bJ E)(h':qO E)(hl:Lb.cK E) (q:GV E) {g:V}{rs:List aD}(hg:Ji E rs g)(hf:Fits rs) (f:bD):aC E 53 [g,.str f] Z K=K (.gB [.str ((fW rs f).elim [] aD.name),.bool (fW rs f).isSome]) Z:=by
 obtain⟨es0,es1,get,A,L3,L4,rfl,hi⟩:=hg
 refine Q7 h h' (g:=false) (g1:=false) hi.sm ?_
 rw[hi.get hf]
 cases fW rs f with
 |none=>exact .inl ⟨rfl,rfl⟩
 |some r=>exact .inr ⟨r.name,rfl,rfl⟩
def nO:aD:=⟨[],[],[],[],[]⟩
def cV (rs:List aD) (n:bD):Option aD:=rs.find? λr=>decide (r.name=n)
theorem C7 (h:bJ E)(h':qO E) {Z:Sg}{g:Bool} (n:bD):∀{es:List (V × V)}{rs:List aD},RM es rs->∃v,lookup E Z 96 (.imp g es) (.str n) true=some (.gB [v,.bool (cV rs n).isSome])/\N_ v ((cV rs n).getD nO):=by
 intro es rs hr
 have hk:eB E 9 (.str n)=true:=by unfold eB;rw[h.cM]
 have key:∃r,iR (fB E 9) (.str n) es=some r/\match r with
   |some v=>∃x,cV rs n=some x/\N_ v x
   |none=>cV rs n=none:=by
  induction hr with
  |nil=>exact⟨none,rfl,rfl⟩
  | @cons e r es rs h1 h2 ih=>
   obtain⟨k,v⟩:=e
   obtain⟨e1,hc⟩:=h1
   dsimp only at e1 hc
   subst e1
   unfold cV
   rw[iR,cA h,jv]
   by_cases hq:r.name=n
   ·rw[gC hq.symm,AT hq]
    exact⟨some v,rfl,r,rfl,hc⟩
   ·rw[fU (jo hq),AI hq]
    exact ih
 obtain⟨r,h1,h2⟩:=key
 cases r with
 |none=>
  refine⟨.agg [.str [],.aB,.aB,.aB,.aB],?_,?_⟩
  ·unfold Ax.lookup
   simp only[h'.MA,h.bC,hk,entriesOf,h1,h2,di,ai,aq,b9]
   rfl
  ·rw[h2]
   exact⟨_,_,_,_,rfl,.inl ⟨rfl,rfl⟩,.inl ⟨rfl,rfl⟩,.inl ⟨rfl,rfl⟩,.inl ⟨rfl,rfl⟩⟩
 |some v=>
  obtain⟨x,h3,h4⟩:=h2
  refine⟨v,?_,by rw[h3];exact h4⟩
  unfold Ax.lookup
  simp only[h'.MA,h.bC,hk,entriesOf,h1,h3,di,ai,aq,b9]
  rfl
theorem N_.ru {v:V}{x:aD}(h:N_ v x):I9 v x:=by
 obtain⟨a,b,c,d,rfl,h1,h2,h3,h4⟩:=h
 exact⟨a,b,c,d,rfl,h1.is,h2.is,h3.is,wF h4.is sF⟩
end
end
section
section
variable {E:Env}{Z:Sg}{K:V->Sg->Prop}
def pP:Lay aJ:=⟨λr x=>r=row x,2,λ_ _ h=>by rw[h];rfl,λ_ _ h c hc=>by
 rw[h]at hc
 unfold row at hc
 simp only[By,br,dz]at hc
 rcases hc with rfl | rfl <;> rfl⟩
theorem DU:∀l:List aJ,dS pP.P (l.map row) l
 | []=>.nil
 |x::l=>.cons rfl (DU l)
theorem Cc.Qg {v:V}{l:List aJ}(h:Cc v l):iO pP v l:=h.imp id λ⟨f,e⟩=>⟨_,f,e,DU l⟩
theorem LV.is {v:V}{l:List aJ}(h:Lb.LV v l):IS pP v l:=h.imp id λ⟨g,f,e⟩=>⟨g,_,f,e,DU l⟩
theorem sJ:∀{rs:List (List V)}{l:List aJ},dS pP.P rs l->rs=l.map row
 |_,_,.nil=>rfl
 |_,_,.cons h t=>by rw[bj,<- sJ t,show _=_ from h]
theorem IS.lv {v:V}{l:List aJ}(h:IS pP v l):Lb.LV v l:=h.imp id λ⟨g,rs,f,e,a⟩=>⟨g,f,by rw[e,sJ a]⟩
theorem uW (h:bJ E) {v:V} {l} (ia:IS pP v l) (Z:Sg):lenOf E Z 23 v=some l.length:=pM h.fO rfl (ia.ls Z 51)
theorem GM (h:bJ E) {v:V} {l} (ia:IS pP v l) {i:Nat} {x}(hx:l[i]?=some x):∃g,indexAddr E 23 v (.int .i64 (i:Int))=some (.dH g [.bool x.1,.str x.2]):=by
 obtain⟨g,r,h1,h2⟩:=IS.at h.fO rfl h.cL rfl ia hx
 exact⟨g,by rw[h1,show r=row x from h2];rfl⟩
theorem JK (h:bJ E) {v:V} {l}(ha:LS pP 51 Z v l):∃v',aQ Z E.ty true v=some v'/\IS pP v' l:=BU h.cL rfl ha
theorem wL (hl:Lb.cK E) {b:Bool} (x y:aJ):kY E 51 b (.agg [.bool x.1,.str x.2]) (.agg [.bool y.1,.str y.2])=some (decide (x=y)):=by
 unfold kY
 rw[hl.cL]
 simp only[hl.To,Ax.eqs,vY,mg,iy]
 rw[dn]
 simp only[ah,fu,IT]
 exact⟨λ⟨h1,h2⟩=>Prod.ext h1 h2,λh=>by rw[h];exact⟨rfl,rfl⟩⟩
theorem rC (Z:Sg) (x:aJ):aQ Z E.ty true (.agg [.bool x.1,.str x.2])=some (.agg [.bool x.1,.str x.2]):=rfl
theorem Mj (h:bJ E)(hl:Lb.cK E) {a:V}{l:List aJ}{s:aJ}(ha:LS pP 51 Z a l)(hsm:l.length<=4294967296):aC E 43 [a,.agg [.bool s.1,.str s.2]] Z K=K (.int .i64 (idx (bN (λx=>decide (x=s)) l))) Z:=by
 refine aC.of ?_
 obtain⟨a',ea,ia⟩:=JK h ha
 have es:=rC (E:=E) Z s
 have d4:=hl.abI
 simp only[aA,Tryz.f43,cutAt,ag]at d4
 rw[aH hl.hs43 hl.sp43 hl.fn43 hl.md43 (args':=[a',.agg [.bool s.1,.str s.2]]) (by simp only[aU,ea,es]),aX (by kernel_rfl)]
 simp only[aA,Tryz.f43,KP,↓reduceIte,reduceLT,reduceAdd,reduceNeg,h.cL]
 have la:=uW h ia
 refine aV (λi F U=>U[0]?=some (O.cells 51 [.bool s.1,.str s.2] true)/\F.get 0=a'/\F.get 3=.ref 0 0/\F.get 5=.int .i64 (i:Int)/\∀j y,j<i->l[j]?=some y->y≠s) l.length ?_ ?_ l.length 0 _ _ (by omega) ⟨rfl,(gE (by simp +decide only[GS,aj]) (λj y hj=>by omega))⟩
 ·rintro i F U hi ⟨hb,g0,g3,g5,hp⟩ next
  obtain⟨x,hx⟩:∃x,l[i]?=some x:=⟨_,BY hi⟩
  obtain⟨g,e1⟩:=GM h ia hx
  have hlt:=eC hi
  have hadd:=bY i (by omega)
  have ev:=λb=>wL (b:=b) hl x s
  rw[aF]
  by_cases hxs:x=s
  ·rw[AT hxs]at ev
   simp only[KP,Ax.loadAt,↓reduceIte,reduceEqDiff,reduceLT,reduceAdd,reduceCtorEq,reduceNeg,h.cL,g0,g3,g5,la,hlt,e1,hb,ev,aK d4,a_]
   rw[iA (i:=i) (x:=x) (λj y hj hy=>AI (hp j y hj hy)) hx (AT hxs)]
   exact rfl
  ·rw[AI hxs]at ev
   simp only[KP,Ax.loadAt,↓reduceIte,reduceEqDiff,reduceLT,reduceAdd,reduceCtorEq,reduceNeg,h.cL,g0,g3,g5,la,hlt,e1,hb,ev,hadd,aK d4,a_]
   refine next _ _ ⟨hb,(gE (by simp +decide only[GS,g0,g3,aj]) (λj y hj hy=>?_))⟩
   rcases cj j i with g | g
   ·exact hp j y g hy
   ·obtain rfl:j=i:=by omega
    rw[hx]at hy;cases hy;exact hxs
 ·rintro F U ⟨hb,g0,g3,g5,hp⟩
  have hlt:=eG (bg l.length)
  rw[aF]
  simp only[KP,↓reduceIte,reduceEqDiff,reduceLT,reduceCtorEq,reduceNeg,g0,g5,la,hlt]
  rw[fR λx hx=>by
   obtain⟨j,hj,e⟩:=fg hx
   exact AI (hp j x hj (by rw[BY hj,e]))]
  exact rfl
end
end
section
section
variable {E:Env}{Z:Sg}{K:V->Sg->Prop}
theorem BC {rs:List aD}(hf:Fits rs) (n:bD):Small ((cV rs n).getD nO):=by
 cases hr:cV rs n with
 |none=>exact⟨gz _,gz _,gz _,gz _,(λs hs=>by cases hs),(λs hs=>by cases hs)⟩
 |some r=>exact hf.small r (List.mem_of_find?_eq_some hr)
theorem N_.snap {U:Sg}{v:V}{x:aD}(hv:N_ v x):aQ U E.ty false v=some v:=by
 obtain⟨a,b,c,d,rfl,h1,h2,h3,h4⟩:=hv
 have q:∀c:V,Ax.bF c=true->bU false c=true->aQ.one U E.ty false c=some c:=λc h1 h2=>by
  unfold aQ.one
  rw[show eE=11+1 from rfl,gW h1]
  simp only[h2,b9]
 show (match aU (aQ.one U E.ty false) [.str x.name,a,b,c,d] with
  |some l=>some (V.agg l)
  |none=>none)=_
 simp only[aU,q (.str x.name) rfl rfl,q a h1.is.bF h1.tag,q b h2.is.bF h2.tag,q c h3.is.bF h3.tag,q d h4.is.bF h4.tag]
theorem Q5 (h:bJ E)(h':qO E)(hl:Lb.cK E) (q:GV E) {g:V}{rs:List aD}(hg:Ji E rs g)(hf:Fits rs) (n:bD):aC E 55 [g,.str n] Z λv σ'=>σ'=Z/\∃w,v=.gB [w,.bool (cV rs n).isSome]/\N_ w ((cV rs n).getD nO):=by
 obtain⟨es0,es1,get,A,L3,L4,rfl,hi⟩:=hg
 have him:Ax.bF (gV es0 es1 A L3 L4)=true:=rfl
 have e1:=cU (Z:=Z) (ty:=E.ty) him (cF him)
 rw[aH q.hs55 q.sp55 q.fn55 q.md55 (args':=[gV es0 es1 A L3 L4,.str n]) (by simp only[aU,e1,dD]),aX (by kernel_rfl)]
 have en:kY E 27 true (.dH false [.imp false es0,.imp false es1,uD A,.imp false (L3.map vJ),.imp false (L4.map vJ)]) .fJ=some false:=by unfold kY;rw[h'.G7]
 obtain⟨w,-,hc⟩:=C7 (Z:=[]) (g:=false) h h' n hi.rules
 have lk:=λZ=>C7 (Z:=Z) (g:=false) h h' n hi.rules
 have hlk:∃w,(∀Z,lookup E Z 96 (.imp false es0) (.str n) true=some (.gB [w,.bool (cV rs n).isSome]))/\N_ w ((cV rs n).getD nO):=by
  obtain⟨w,e,hc⟩:=lk []
  exact⟨w,λZ=>e,hc⟩
 obtain⟨w,hlk,hc⟩:=hlk
 have hsm:=BC hf n
 generalize (cV rs n).getD nO=x at hc hsm ⊢
 generalize (cV rs n).isSome=b at hlk ⊢
 have hc0:=hc
 obtain⟨a1,a2,a3,a4,rfl,j1,j2,j3,j4⟩:=hc
 have o1:=aL j1.is.bF
 have o2:=aL j2.is.bF
 have o3:=aL j3.is.bF
 have o4:=aL j4.is.bF
 simp only[aA,Tryz.f55,KP,Ax.loadAt,Ax.storeAt,↓reduceIte,reduceEqDiff,reduceLT,reduceAdd,reduceCtorEq,h.bC,h'.mR,h'.MA,gV,en,hlk,o1,o2,o3,o4]
 refine aO (IX h h' hc0.ru hsm) ?_
 rintro v σ' ⟨rfl,hv⟩
 have hv0:=hv
 obtain⟨b1,b2,b3,b4,rfl,i1,i2,i3,i4⟩:=hv
 have p1:=aL i1.is.bF
 have p2:=aL i2.is.bF
 have p3:=aL i3.is.bF
 have p4:=aL i4.is.bF
 have es:=λU=>hv0.snap (E:=E) (U:=U)
 have eb:∀U,aQ U E.ty false (.bool b)=some (.bool b):=λU=>rfl
 simp only[KP,Ax.loadAt,Ax.storeAt,↓reduceIte,reduceEqDiff,reduceLT,reduceAdd,h.bC,p1,p2,p3,p4,es,eb,bW,aU]
 exact⟨_,rfl,hv0⟩
theorem lQ {rs:List aD}{p:aJ × aJ}:p∈rs.flatMap eH ↔ ∃r∈rs,(∃f∈r.ins,p=(((true,r.name):aJ),((false,f):aJ)))\/∃f∈r.outs,p=(((false,f):aJ),((true,r.name):aJ)):=by
 rw[ik]
 refine exists_congr λr=>and_congr po ?_
 unfold eH
 rw[bw,cg,cg]
 exact or_congr (exists_congr λf=>and_congr po eq_comm) (exists_congr λf=>and_congr po eq_comm)
theorem B0 {rs:List aD}{a b:aJ}(hp:(a,b)∈rs.flatMap eH):a∈dV rs/\b∈dV rs:=⟨uT.2 (.inr ⟨_,hp,.inl rfl⟩),uT.2 (.inr ⟨_,hp,.inr rfl⟩)⟩
theorem EC {rs:List aD}(hf:Fits rs) {r r':aD}(h1:r∈rs)(h2:r'∈rs)(he:r.name=r'.name):r=r':=by
 obtain⟨i,hi⟩:=jg.1 h1
 obtain⟨j,hj⟩:=jg.1 h2
 have:=(wJ hf.ok.1).short.nodup i j r r' hi hj he
 subst this
 rw[hi]at hj
 exact cv hj
end
end
section
section
variable {E:Env}{Z:Sg}{K:V->Sg->Prop}
theorem zJ {rs:List aD}{n:bD}{y:aJ}(h:y∈iK rs (true,n)):∃r∈rs,r.name=n/\∃f∈r.ins,y=(false,f):=by
 obtain⟨r,hr,⟨f,hf,e⟩ | ⟨f,hf,e⟩⟩:=lQ.1 (jI.1 h)
 ·cases e;exact⟨r,hr,rfl,f,hf,rfl⟩
 ·cases e
theorem sU {rs:List aD}{f:bD}{y:aJ}(h:y∈iK rs (false,f)):∃r∈rs,f∈r.outs/\y=(true,r.name):=by
 obtain⟨r,hr,⟨g,hg,e⟩ | ⟨g,hg,e⟩⟩:=lQ.1 (jI.1 h)
 ·cases e
 ·cases e;exact⟨r,hr,hg,rfl⟩
end
end
section
section
variable {E:Env}{Z:Sg}{K:V->Sg->Prop}
theorem nW {rs:List aD}(hf:Fits rs):(dV rs).length<=2000:=by
 have h1:=hf.R9
 have h2:=hf.len
 refine gh (pJ (b:=rs.map g_++(rs.flatMap eH).flatMap λp=>[p.1,p.2]) (Cb rs).nodup λx hx=>jH.1 hx) ?_
 have h3:∀P:List (aJ × aJ),(P.flatMap λp=>[p.1,p.2]).length=2*P.length:=λP=>by
  induction P with
  |nil=>rfl
  |cons p P ih=>rw[j7,an,ih];simp only[aa,bf];omega
 rw[an,az,h3]
 omega
end
end
section
structure RcE (E:Env):Prop where
 hs77:E.hspec 77=none
 sp77:E.spec 77=none
 fn77:E.fn 77=some (aA Tryz.f77)
 md77:E.mode 77=.fD
 hs17:E.hspec 17=none
 RY:E.spec 17=none
 fn17:E.fn 17=some (aA Tryz.f17)
 md17:E.mode 17=.fD
 hs19:E.hspec 19=none
 RW:E.spec 19=none
 fn19:E.fn 19=some (aA Tryz.f19)
 md19:E.mode 19=.fD
section
variable {E:Env}{Z:Sg}{K:V->Sg->Prop}
theorem Nz {U:Sg}{x:aJ}{ex:Bool}:elems (U++[.cells 51 [.bool x.1,.str x.2] ex]) 2 (.sl U.length 0 1 none)=some ([row x].flatten,[x].length):=by
 simp only[elems,aR]
 rfl
theorem xW (hl:Lb.cK E):eY E #[23,23]=true:=by
 unfold eY
 simp only[hl.fO,cr,cw,bz]
 rfl
theorem T1 (hl:Lb.cK E) {U:Sg}{w:V}{l:List aJ}{x:aJ}{ex:Bool} (ow:bH pP 51 U w l)(hb:l.length<=1000000):∃w' τ',Ax.append E (U++[.cells 51 [.bool x.1,.str x.2] ex]) #[23,23] w (.sl U.length 0 1 none)=some (w',τ')/\bH pP 51 τ' w' (l++[x])/\Sp (U++[.cells 51 [.bool x.1,.str x.2] ex]) τ' w/\∀c,aZ w'=some c->aZ w=some c\/U.length<=c:=by
 obtain⟨w',τ',h1,h2,h3,-,h5⟩:=iB (m:=[x]) (new:=[row x]) hl.fO rfl hl.cL rfl (by decide) (xW hl) rfl (ow.app [.cells 51 [.bool x.1,.str x.2] ex]) Nz (.one rfl) (cZ (b:=1000001) (by decide) (by simp only[aa,bf];omega))
 exact⟨w',τ',h1,h2,h3,λc hc=>(h5 c hc).imp id λh=>by rw[an]at h;omega⟩
def Rk (nx:aJ->List aJ) (s0:aJ->Prop):Nat->aJ->Prop
 |0,x=>s0 x
 |k+1,x=>Rk nx s0 k x\/∃y,Rk nx s0 k y/\x∈nx y
def T6 (nx:aJ->List aJ) (s0:aJ->Prop) (bR:Int) (x:aJ):Prop:=(bR<0/\∃n,Rk nx s0 n x)\/(0<=bR/\Rk nx s0 bR.toNat x)
section
variable {nx:aJ->List aJ}{s0:aJ->Prop}
theorem Rk.mono {x : aJ} : ∀ {k n : Nat}, k <= n -> Rk nx s0 k x -> Rk nx s0 n x
  | k, 0, h, hx => by obtain rfl : k = 0 := by omega
                      exact hx
  | k, n + 1, h, hx => by
    rcases cj n k with h1 | h1
    · obtain rfl : k = n + 1 := by omega
      exact hx
    · exact .inl (Rk.mono h1 hx)
theorem Rk.closed {k:Nat}(hc:∀y x,Rk nx s0 k y->x∈nx y->Rk nx s0 k x):∀(n:Nat) {x:aJ},Rk nx s0 n x->Rk nx s0 k x
 |0,_,hx=>Rk.mono (gz k) hx
 |n+1,_,.inl hx=>Rk.closed hc n hx
 |n+1,_,.inr ⟨y,hy,hx⟩=>hc y _ (Rk.closed hc n hy) hx
structure Rd (nx:aJ->List aJ) (s0:aJ->Prop) (k:Nat) (A now:List aJ):Prop where
 all:∀x,x∈A ↔ Rk nx s0 k x
 sub:∀x,x∈now->x∈A
 rest:∀y,y∈A->y ∉ now->∀x,x∈nx y->x∈A
theorem Rd.start {A now:List aJ}(h1:∀x,x∈A ↔ s0 x)(h2:∀x,x∈now ↔ x∈A):Rd nx s0 0 A now:=⟨h1,λx h=>(h2 x).1 h,λy h h'=>absurd ((h2 y).2 h) h'⟩
theorem Rd.next {k:Nat}{A now A' more:List aJ}(h:Rd nx s0 k A now)(h1:∀x,x∈A' ↔ x∈A\/∃y∈now,x∈nx y)(h2:∀x,x∈more ↔ x∈A'/\x ∉ A):Rd nx s0 (k+1) A' more:=by
 have key:∀y x,y∈A->x∈nx y->x∈A':=λy x hy hx=>by
  by_cases hn:y∈now
  ·exact (h1 x).2 (.inr ⟨y,hn,hx⟩)
  ·exact (h1 x).2 (.inl (h.rest y hy hn x hx))
 refine⟨λx=>?_,λx hx=>((h2 x).1 hx).1,λy hy hn x hx=>?_⟩
 ·constructor
  ·intro hx
   rcases (h1 x).1 hx with hx | ⟨y,hy,hx⟩
   ·exact .inl ((h.all x).1 hx)
   ·exact .inr ⟨y,(h.all y).1 (h.sub y hy),hx⟩
  ·rintro (hx | ⟨y,hy,hx⟩)
   ·exact (h1 x).2 (.inl ((h.all x).2 hx))
   ·exact key y x ((h.all y).2 hy) hx
 ·by_cases hA:y∈A
  ·exact key y x hA hx
  ·exact absurd ((h2 y).2 ⟨hy,hA⟩) hn
theorem Rd.bR {k:Nat}{A now:List aJ}(h:Rd nx s0 k A now) (x:aJ):x∈A ↔ T6 nx s0 (k:Int) x:=by
 rw[h.all]
 unfold T6
 constructor
 ·exact λhx=>.inr ⟨by omega,by rw[dj];exact hx⟩
 ·rintro (⟨h1,-⟩ | ⟨-,hx⟩)
  ·omega
  ·rw[dj]at hx;exact hx
theorem Rd.still {k:Nat}{A:List aJ}{bR:Int}(h:Rd nx s0 k A [])(hk:0<=bR->(k:Int)<=bR) (x:aJ):x∈A ↔ T6 nx s0 bR x:=by
 have hc:∀y x,Rk nx s0 k y->x∈nx y->Rk nx s0 k x:=λy x hy hx=>(h.all x).1 (h.rest y ((h.all y).2 hy) (by simp) x hx)
 rw[h.all]
 unfold T6
 constructor
 ·intro hx
  by_cases hf:bR<0
  ·exact .inl ⟨hf,k,hx⟩
  ·exact .inr ⟨by omega,Rk.mono (by have:=hk (by omega);omega) hx⟩
 ·rintro (⟨-,n,hx⟩ | ⟨-,hx⟩)
  ·exact Rk.closed hc n hx
  ·exact Rk.closed hc _ hx
theorem Rk.sub {P:aJ->Prop}(h0:∀x,s0 x->P x)(hn:∀y x,x∈nx y->P x):∀(n:Nat) {x:aJ},Rk nx s0 n x->P x
 |0,_,hx=>h0 _ hx
 |n+1,_,.inl hx=>Rk.sub h0 hn n hx
 |n+1,_,.inr ⟨y,_,hx⟩=>hn y _ hx
end
end
end
section
section
variable {E:Env}{Z:Sg}{K:V->Sg->Prop}
structure Ri (nx:aJ->List aJ) (all A0:List aJ) (P:aJ->Prop) (A more:List aJ):Prop where
 mem:∀x,x∈A ↔ x∈A0\/P x
 new:∀x,x∈more ↔ x∈A/\x ∉ A0
 sub:∀x,x∈A->x∈all
 len:more.length<=A.length
 nd:A.Nodup
 up:A0.length<=A.length/\(more≠[]->A0.length<A.length)
theorem Ri.le {nx:aJ->List aJ}{all A0 A more:List aJ}{P:aJ->Prop}(h:Ri nx all A0 P A more)(hal:all.length<=2000):A.length<=2000:=gh (pJ h.nd h.sub) hal
theorem Ri.old {nx:aJ->List aJ}{all A0 A more:List aJ}{P P':aJ->Prop}(h:Ri nx all A0 P A more) {x:aJ}(hx:x∈A)(hP:∀y,P' y ↔ P y\/y=x):Ri nx all A0 P' A more:=⟨λy=>by
 rw[hP,<- or_assoc,<- h.mem]
 exact⟨.inl,λh=>h.elim id λe=>by rw[e];exact hx⟩,h.new,h.sub,h.len,h.nd,h.up⟩
theorem Ri.fresh {nx:aJ->List aJ}{all A0 A more:List aJ}{P P':aJ->Prop}(h:Ri nx all A0 P A more) {x:aJ}(hx:x ∉ A)(ha:x∈all)(hP:∀y,P' y ↔ P y\/y=x):Ri nx all A0 P' (A++[x]) (more++[x]):=by
 have hx0:x ∉ A0:=λe=>hx ((h.mem x).2 (.inl e))
 refine⟨λy=>?_,λy=>?_,λy hy=>?_,by simp only[an,aa,bf];have:=h.len;omega,l6.2 ⟨h.nd,List.pairwise_singleton ..,λa ha b hb e=>hx (by rw[dc]at hb;rw[<- hb,<- e];exact ha)⟩,?_⟩
 ·rw[hP,<- or_assoc,<- h.mem,bw,dc]
 ·rw[bw,bw,dc,h.new]
  constructor
  ·rintro (⟨h1,h2⟩ | rfl)
   ·exact⟨.inl h1,h2⟩
   ·exact⟨.inr rfl,hx0⟩
  ·rintro⟨h1 | h1,h2⟩
   ·exact .inl ⟨h1,h2⟩
   ·exact .inr h1
 ·rcases bw.1 hy with h1 | h1
  ·exact h.sub y h1
  ·rw[dc.1 h1];exact ha
 ·have:=h.up.1
  simp only[an,aa,bf]
  exact⟨by omega,λ_=>by omega⟩
theorem Ri.congr {nx:aJ->List aJ}{all A0 A more:List aJ}{P P':aJ->Prop}(h:Ri nx all A0 P A more)(hP:∀y,P' y ↔ P y):Ri nx all A0 P' A more:=⟨λy=>by rw[hP];exact h.mem y,h.new,h.sub,h.len,h.nd,h.up⟩
theorem EZ {l:List aJ}{j:Nat}{x:aJ}(hj:l[j]?=some x) (y:aJ):y∈l.take (j+1) ↔ y∈l.take j\/y=x:=by
 rw[dh,hj]
 simp
theorem Iz (a:Bool) (s:bD):Ax.fill (λj=>some (j*2,2)) (fG 1 [V.bool false,V.str []]) [(0,V.agg [V.bool a,V.str s])]=some [.bool a,.str s]:=rfl
theorem Vu (hl:Lb.cK E) {U:Sg}{w:V}{l:List aJ} (on:bH pP 51 U w l) {i:Nat}{y:aJ}(hy:l[i]?=some y):∃b o u cs ex,indexAddr E 23 w (.int .i64 (i:Int))=some (.ref b o)/\U[b]?=some (.cells u cs ex)/\o+2<=cs.length/\(cs.drop o).take 2=row y:=by
 obtain⟨p,r0,e1,hr0,-,-,hp⟩:=Fv hl.fO rfl hl.cL rfl on.ls hy
 obtain rfl:r0=row y:=hr0
 rcases hp with⟨g,rfl⟩ | ⟨b,o,rfl,u,cs,ex,hb,hle,hrow⟩
 ·exfalso
  rcases on with⟨rfl,rfl⟩ | ⟨b,rs,ex,rfl,hb,-⟩
  ·cases hy
  ·unfold indexAddr at e1
   simp only[hl.fO,hl.cL]at e1
   repeat' split at e1
   all_goals cases e1
 ·exact⟨b,o,u,cs,ex,e1,hb,hle,hrow⟩
end
end
section
structure Eh (E:Env):Prop where
 nQ:E.ty 70=some { kd:=.jR [(0,22),(1,23),(2,68)],size:=3,bytes:=72,zero:=.agg [.aB,.aB,.aB] }
 ty29:E.ty 29=some { kd:=.ptr 70,size:=1,bytes:=8,zero:=.fJ }
 hs76:E.hspec 76=none
 sp76:E.spec 76=none
 fn76:E.fn 76=some (aA Tryz.f76)
 md76:E.mode 76=.fD
 abt:aI E (cutAt [1,1,0,1,0,0] (aA Tryz.f76).code)=true
 abr:aI E (cutAt [1,1,1,1,0] (aA Tryz.f76).code)=true
 hs14:E.hspec 14=none
 OU:E.spec 14=none
 fn14:E.fn 14=some (aA Tryz.f14)
 md14:E.mode 14=.fD
 WZ:eL E (opsOf (cutAt [1,1,0,1,2,2,1,0,2,0] (aA Tryz.f14).code))=.no
 YC:cB E .no (opsOf (cutAt [1,1,0,1,2,2,1,0,2,0] (aA Tryz.f14).code))=some [⟨4,9,false,true⟩,  ⟨4,10,false,true⟩]
 abL:aI E (cutAt [1,1,0,1,2,2,1,0,2,1,0] (aA Tryz.f14).code)=true
 WY:eL E (opsOf (cutAt [1,1,0,1,2,2,1,0,2,1,1,0] (aA Tryz.f14).code))=.no
 YB:cB E .no (opsOf (cutAt [1,1,0,1,2,2,1,0,2,1,1,0] (aA Tryz.f14).code))=some [⟨5,10,true,false⟩]
 Uu:eL E (opsOf (cutAt [1,1,1,0,1,2,2,1,0,2,0] (aA Tryz.f14).code))=.no
 Vm:cB E .no (opsOf (cutAt [1,1,1,0,1,2,2,1,0,2,0] (aA Tryz.f14).code))=some [⟨4,10,false,true⟩,  ⟨4,11,false,true⟩]
 Wg:aI E (cutAt [1,1,1,0,1,2,2,1,0,2,1,1,2,2,1,0,2] (aA Tryz.f14).code)=true
 hs18:E.hspec 18=none
 RX:E.spec 18=none
 fn18:E.fn 18=some (aA Tryz.f18)
 md18:E.mode 18=.fD
 d18_5:aI E (cutAt [1,1,0,1,2,2,1,0,2,0] (aA Tryz.f18).code)=true
 hs41:E.hspec 41=none
 sp41:E.spec 41=none
 fn41:E.fn 41=some (aA Tryz.f41)
 md41:E.mode 41=.fD
 d41_4:aI E (cutAt [1,0,1,2,2,1,0,2,0] (aA Tryz.f41).code)=true
 d41_5:aI E (cutAt [1,0,1,2,2,1,0,2,1,0] (aA Tryz.f41).code)=true
section
variable {E:Env}{Z:Sg}{K:V->Sg->Prop}
theorem Qi {l:List bD}{s:bD}:decide (0<=idx (bN (λx=>decide (x=s)) l))=decide (s∈l):=by
 by_cases hs:s∈l
 ·obtain⟨j,hj⟩:=iY (p:=λx:bD=>decide (x=s)) hs (AT rfl)
  rw[hj,AT hs]
  exact AT (by show (0:Int)<=(j:Int);omega)
 ·rw[fR (p:=λx:bD=>decide (x=s)) λx hx=>AI λe:x=s=>hs (by rw[<- e];exact hx),AI hs]
  rfl
theorem Pa {rs:List aD}{n:bD}(hx:((true,n):aJ)∈dV rs):∃r∈rs,r.name=n:=by
 rcases uT.1 hx with hx | ⟨p,hp,hx⟩
 ·obtain⟨r,hr,e⟩:=cg.1 hx
  exact⟨r,hr,au Prod.snd e⟩
 ·obtain⟨r,hr,⟨f,-,rfl⟩ | ⟨f,-,rfl⟩⟩:=lQ.1 hp
  ·rcases hx with e | e
   ·cases e;exact⟨r,hr,rfl⟩
   ·cases e
  ·rcases hx with e | e
   ·cases e
   ·cases e;exact⟨r,hr,rfl⟩
theorem QO (h:bJ E)(hl:Lb.cK E) (rg:Eh E) {a:V}{rs:List aD}(ha:LS bS 46 Z a rs)(hf:Fits rs) {x y:aJ}(hx:x∈dV rs):aC E 76 [a,.agg [.bool x.1,.str x.2],.agg [.bool y.1,.str y.2]] Z K=K (.bool (decide (y∈iK rs x))) Z:=by
 refine aC.of ?_
 obtain⟨a',ea,ia⟩:=dQ h ha
 have ex:=rC (E:=E) Z x
 have ey:=rC (E:=E) Z y
 have hlen:=hf.len
 have d4:=rg.abt
 simp only[aA,Tryz.f76,cutAt,ag]at d4
 have d6:=rg.abr
 simp only[aA,Tryz.f76,cutAt,ag]at d6
 rw[aH rg.hs76 rg.sp76 rg.fn76 rg.md76 (args':=[a',.agg [.bool x.1,.str x.2],.agg [.bool y.1,.str y.2]]) (by simp only[aU,ea,ex,ey]),aX (by kernel_rfl)]
 have e4:∀c x y,kY E 4 c (.bool x) (.bool y)=some (x==y):=λc x y=>by unfold kY;simp only[h.uC]
 obtain⟨bx,sx⟩:=x
 obtain⟨cy,sy⟩:=y
 dsimp only
 cases bx with
 |true=>
  cases cy with
  |true=>
   have hn:((true,sy):aJ) ∉ iK rs (true,sx):=λhm=>by
    obtain⟨r,-,-,f,-,e⟩:=zJ hm
    cases e
   rw[AI hn]
   simp only[aA,Tryz.f76,KP,Ax.loadAt,↓reduceIte,reduceEqDiff,reduceLT,reduceAdd,reduceCtorEq,h.uC,h.cL,e4,bW,aQ]
   exact rfl
  |false=>
   obtain⟨r,hr,hrn⟩:=Pa hx
   obtain⟨i,hi⟩:=iY (p:=λr:aD=>decide (r.name=sx)) hr (AT hrn)
   obtain⟨r',hr',hrn'⟩:=fK hi
   obtain rfl:=EC hf (af hr') hr ((dx hrn').trans hrn.symm)
   obtain⟨g,p1,p2,p3,p4,e1,i1,-⟩:=dK h ia hr'
   have hil:=gh (hf.small r' hr).ins (show 10<=4294967296 by decide)
   have ka:=λ(U:Sg)=>cH λK=>WE (Z:=U) (K:=K) h (s:=sx) (ia.ls U 46) (by omega)
   have kf:=λ(U:Sg)=>cH λK=>Ra (Z:=U) (K:=K) h (s:=sy) (i1.ls U 9) hil
   rw[show fF rs sx=some i from hi,dI]at ka
   have hd:=Qi (l:=r'.ins) (s:=sy)
   have hiff:decide (((false,sy):aJ)∈iK rs (true,sx))=decide (sy∈r'.ins):=nh.2 ⟨λhm=>by
    obtain⟨r0,hr0,hn0,f,hf0,e⟩:=zJ hm
    cases e
    rw[EC hf hr0 hr (hn0.trans hrn.symm)]at hf0
    exact hf0,λhm=>jI.2 (lQ.2 ⟨r',hr,.inl ⟨sy,hm,by rw[hrn]⟩⟩)⟩
   rw[hiff]
   simp only[aA,Tryz.f76,KP,Ax.loadAt,↓reduceIte,reduceEqDiff,reduceLT,reduceAdd,reduceCtorEq,h.uC,h.cM,h.aY,h.bC,h.cL,e4,ka,kf,e1,hd,bW,aQ,aK d4,a_]
   exact rfl
 |false=>
  cases cy with
  |false=>
   have hn:((false,sy):aJ) ∉ iK rs (false,sx):=λhm=>by
    obtain⟨r,-,-,e⟩:=sU hm
    cases e
   rw[AI hn]
   simp only[aA,Tryz.f76,KP,Ax.loadAt,↓reduceIte,reduceEqDiff,reduceLT,reduceAdd,reduceCtorEq,h.uC,h.cL,e4,bW,aQ]
   exact rfl
  |true=>
   have km:=λ(U:Sg)=>cH λK=>Ca (Z:=U) (K:=K) h (s:=sx) (ia.ls U 46) (λx hx=>gh (hf.small x hx).outs (by decide)) (by omega)
   cases hm:c_ rs sx with
   |none=>
    have hn:((true,sy):aJ) ∉ iK rs (false,sx):=λhq=>by
     obtain⟨r,hr,hro,-⟩:=sU hq
     obtain⟨k,hk⟩:=iY (p:=λr:aD=>decide (sx∈r.outs)) hr (AT hro)
     unfold c_ at hm
     rw[hk]at hm
     cases hm
    rw[AI hn]
    rw[hm]at km
    have hz:decide (0<=idx (none:Option Nat))=false:=rfl
    simp only[aA,Tryz.f76,KP,Ax.loadAt,↓reduceIte,reduceEqDiff,reduceLT,reduceAdd,reduceCtorEq,h.uC,h.cM,h.cL,e4,km,hz,bW,aQ,aK d6,a_]
    exact rfl
   |some k=>
    unfold c_ at hm
    obtain⟨r,hr,hro⟩:=fK hm
    have hro:=dx hro
    obtain⟨g,p1,p2,p3,p4,e1,-⟩:=dK h ia hr
    have hiff:decide (((true,sy):aJ)∈iK rs (false,sx))=decide (r.name=sy):=nh.2 ⟨λhq=>by
     obtain⟨r',hr',hro',e⟩:=sU hq
     cases e
     exact (wJ hf.ok.1).short.jN sx r.name r'.name ⟨r,af hr,hro,rfl⟩ ⟨r',hr',hro',rfl⟩,λe=>jI.2 (lQ.2 ⟨r,af hr,.inr ⟨sx,hro,by rw[e]⟩⟩)⟩
    rw[hiff]
    have hm:c_ rs sx=some k:=hm
    rw[hm,dI]at km
    simp only[aA,Tryz.f76,KP,Ax.loadAt,↓reduceIte,reduceEqDiff,reduceLT,reduceAdd,reduceCtorEq,h.uC,h.cM,h.bC,h.cL,e4,km,e1,vY,bW,aQ,aK d6,a_]
    exact rfl
end
end
end Go.Proofs.YtmbikbgdbbcbmaaGreatDoor
end
section
namespace Go.Proofs.YtmbikbgdbbcbmaaGreatDoor.Lb
open Go Go.Ax Go.AxS
section
def pos:List aJ->aJ->Nat
 | [],_=>0
 |y::r,x=>if lt y x=true then pos r x+1 else 0
theorem Ge:∀(l:List aJ) (x:aJ),pos l x<=l.length
 | [],_=>ae _
 |y::r,x=>by
  simp only[pos,aa]
  have:=Ge r x
  split <;> omega
theorem Pu:∀(l:List aJ) (x:aJ) (i:Nat),i<pos l x->∃y,l[i]?=some y/\lt y x=true
 | [],_,i,h=>by simp[pos]at h
 |y::r,x,0,h=>by
  simp only[pos]at h
  split at h
  ·rename_i hy;exact⟨y,rfl,hy⟩
  ·omega
 |y::r,x,i+1,h=>by
  simp only[pos]at h
  split at h
  ·obtain⟨z,h1,h2⟩:=Pu r x i (by omega)
   exact⟨z,h1,h2⟩
  ·omega
theorem pos_at:∀(l:List aJ) (x y:aJ),l[pos l x]?=some y->lt y x=false
 | [],_,_,h=>by simp[pos]at h
 |z::r,x,y,h=>by
  simp only[pos]at h
  split at h
  ·exact pos_at r x y h
  ·rename_i hz
   have:z=y:=by simpa using h
   subst this
   simpa using hz
theorem Gb:∀(l:List aJ) (x:aJ),put l x=if l[pos l x]?=some x then l else l.take (pos l x)++x::l.drop (pos l x)
 | [],x=>by simp[put,pos]
 |y::r,x=>by
  by_cases hy:lt y x=true
  ·have e:pos (y::r) x=pos r x+1:=by simp only[pos,hy,b9]
   have p:put (y::r) x=y::put r x:=by simp only[put,hy,b9]
   rw[p,Gb r x]
   simp only[e,cw,og,mz,dy]
   split <;> rfl
  ·have e:pos (y::r) x=0:=by simp only[pos,hy];rfl
   have p:put (y::r) x=if y=x then y::r else x::y::r:=by simp only[put,hy];rfl
   rw[p]
   simp only[e,bz,iy,kz,eu,cq]
theorem KM (x:aJ):nD (oO 11) (row x) (row x)=true:=by
 show ((x.1==x.1)&&(Ax.seq x.2 x.2&&true))=true
 rw[(kI x.2 x.2).2 rfl]
 simp
theorem FA {g:List V->List V->Bool}:∀l:List aJ,(∀x,g (row x) (row x)=true)->nD g (l.map row) (l.map row)=true
 | [],_=>rfl
 |x::l,h=>by
  show (g (row x) (row x)&&nD g (l.map row) (l.map row))=true
  rw[h,FA l h];rfl
theorem vR (a:Bool) (s:List Nat):oO 12 (.agg [.bool a,.str s]) (.agg [.bool a,.str s])=true:=KM (a,s)
theorem FQ (g full:Bool) (l:List aJ):oO 12 (.bT g (l.map row) full) (.bT g (l.map row) full)=true:=by
 show (g==g&&nD (nD (oO 11)) (l.map row) (l.map row)&&full==full)=true
 rw[FA l KM];simp
section
variable {E:Env}{Z:Sg}{K:V->Sg->Prop}
theorem mE (h:cK E) (a:Bool) (s:List Nat) (ex:Bool) (U:Sg):loadAt E (.cells 51 [.bool a,.str s] ex::U) 51 (.ref 0 0)=some (.agg [.bool a,.str s]):=by
 unfold loadAt
 rw[h.cL]
 rfl
theorem MW (h:cK E) {v:V}{l:List aJ}{x:aJ}(hv:LV v l)(hsm:l.length<=1000000000000) {s:List iW}{Q:Ax.X->Fr->Sg->Prop}
  (hQ:∀F':FT,F'.get 0=v->F'.get 3=.ref 0 0->F'.get 5=.int .i64 (pos l x:Int)->M E s .normal ⟨44,F'⟩ [.cells 51 [.bool x.1,.str x.2] true] Q) :
  ∀(k i:Nat) (F:FT),i+k=pos l x->F.get 0=v->F.get 3=.ref 0 0->F.get 5=.int .i64 (i:Int)->R E (.loop (cutAt [1,1,0,2,2] (aA Tryz.f75).code)) (.blk 0::s) ⟨44,F⟩ [.cells 51 [.bool x.1,.str x.2] true] Q:=by
 have la:∀Z,lenOf E Z 23 v=some l.length:=λZ=>AA h (hv.sv Z)
 have hk:pos l x<=l.length:=Ge l x
 have d2:=h.abv
 simp only[aA,Tryz.f75,cutAt,ag]at d2
 intro k
 induction k with
 |zero=>
  intro i F hi g0 g3 g5
  rw[aF]
  by_cases hil:i<l.length
  ·have hlt:decide ((i:Int)<(l.length:Int))=true:=AT (by omega)
   obtain⟨y,hy⟩:∃y,l[i]?=some y:=⟨_,BY hil⟩
   obtain⟨pa,e1,e2⟩:=wM h (hv.sv [.cells 51 [.bool x.1,.str x.2] true]) hy
   have e2:=e2 _ (dL.refl _)
   have hm:lt (y.1,y.2) (x.1,x.2)=false:=pos_at l x y (by rw[<- hi];exact hy)
   simp only[aA,Tryz.f75,KP,↓reduceIte,reduceEqDiff,reduceLT,reduceCtorEq,cutAt,g0,g3,g5,la,hlt,aK d2,a_,e1,e2,mE h,LM h,hm]
   refine hQ _ ?_ ?_ ?_ <;> simp only[FT.dJ,g0,g3,g5,↓reduceIte,reduceEqDiff,reduceCtorEq]
   rw[<- hi,kj]
  ·have hlt:decide ((i:Int)<(l.length:Int))=false:=AI (by omega)
   simp only[aA,Tryz.f75,KP,↓reduceIte,reduceEqDiff,reduceLT,reduceCtorEq,cutAt,g0,g5,la,hlt,aK d2,a_]
   refine hQ _ ?_ ?_ ?_ <;> simp only[FT.dJ,g0,g3,g5,↓reduceIte,reduceEqDiff,reduceCtorEq]
   rw[<- hi,kj]
 |succ k ih=>
  intro i F hi g0 g3 g5
  obtain⟨y,hy,hn⟩:=Pu l x i (by omega)
  have hlt:decide ((i:Int)<(l.length:Int))=true:=AT (by omega)
  obtain⟨pa,e1,e2⟩:=wM h (hv.sv [.cells 51 [.bool x.1,.str x.2] true]) hy
  have e2:=e2 _ (dL.refl _)
  have hm:lt (y.1,y.2) (x.1,x.2)=true:=hn
  have hadd:=FJ i (by omega)
  rw[aF]
  simp only[aA,Tryz.f75,KP,↓reduceIte,reduceEqDiff,reduceLT,reduceCtorEq,cutAt,g0,g3,g5,la,hlt,aK d2,a_,e1,e2,mE h,LM h,hm,hadd]
  refine ih (i+1) _ (by omega) ?_ ?_ ?_ <;> simp only[FT.dJ,g0,g3,↓reduceIte,reduceEqDiff,reduceCtorEq]
end
end
section
section
variable {E:Env}{Z:Sg}{K:V->Sg->Prop}
theorem rS (Z:Sg) (g full:Bool) (a:Bool) (s:List Nat):elems Z 2 (.bT g [[.bool a,.str s]] full)=some ([.bool a,.str s],1):=rfl
theorem AN (Z:Sg) (g full:Bool):elems Z 2 (.bT g [] full)=some ([],0):=rfl
theorem Ot:BB 2 []=true:=rfl
theorem A4 (g full:Bool):oO 12 (.bT g [] full) (.bT g [] full)=true:=FQ g full []
theorem Pe:roomy 1 24=true:=by decide
theorem F9:lF 1 24=true:=by decide
theorem Pp (h:cK E) {l:List aJ}{x:aJ}{g full:Bool}(hsm:l.length<=100000000000) (F:FT) (g0:F.get 0=.bT g (l.map row) full) (g3:F.get 3=.ref 0 0) (g5:F.get 5=.int .i64 (pos l x:Int)) :
  ∃F' b cs σ',bG E (ev E 0) (opsOf (cutAt [1,1,1,1,0] (aA Tryz.f75).code)) ⟨44,F⟩ [.cells 51 [.bool x.1,.str x.2] true]=some (⟨44,F'⟩,σ')/\F'.get 4=.sl b 0 (l.length+1) none/\σ'[b]?=some (.cells 51 cs false)/\cs=(l.take (pos l x)++x::l.drop (pos l x)).flatMap row:=by
 have hk:pos l x<=l.length:=Ge l x
 generalize pos l x=k at *
 have hd1:decide ((0:Int)<=(k:Int))=true:=AT (by omega)
 have hd2:decide ((k:Int)<=(l.length:Int))=true:=AT (by omega)
 have hm1:(l.map row).take k=(l.take k).map row:=by rw[List.map_take]
 have hm2:((l.map row).drop k).take (l.length-k)=(l.drop k).map row:=by
  rw[ak (by simp),List.map_drop]
 have n1:(l.take k).length=k:=by rw[bl];omega
 have n2:(l.drop k).length=l.length-k:=qd
 have f1:((l.take k).flatMap row).length=k*2:=by rw[kF,n1]
 have f2:((k+1)*2<=k*2)=False:=by simp only[eq_iff_iff,iff_false];omega
 have f3:((l.take k).flatMap row).take (k*2)=(l.take k).flatMap row:=ak (by omega)
 have f4:((l.take k).flatMap row++[V.bool x.1,V.str x.2]).length=(k+1)*2:=by rw[an,f1];show _+2=_;omega
 have f6:((l.take k).flatMap row++[V.bool x.1,V.str x.2]).take ((k+1)*2)=(l.take k).flatMap row++[V.bool x.1,V.str x.2]:=ak (by omega)
 have r1:lF k 24=true:=MR k (by omega)
 have r2:roomy (k+1) 24=true:=CK _ (by omega)
 have r3:roomy (k+1+(l.length-k)) 24=true:=CK _ (by omega)
 have f7:k+1+(l.length-k)=l.length+1:=by omega
 have f8:(l.take k++x::l.drop k).flatMap row=(l.take k).flatMap row++[V.bool x.1,V.str x.2]++(l.drop k).flatMap row:=by simp[List.flatMap_append,row]
 unfold bG
 rw[h.T_,h.Uf]
 by_cases hp:k=0
 ·subst hp
  by_cases hq:l.length=0
  ·obtain rfl:=jh.1 hq
   simp only[opsOf,cutAt,aA,Tryz.f75,Fz.lits,Fz.apps,eJ,bB,bQ,iX,Ax.comp,rM,Ax.last,dM,Ax.again,Ax.slice,Ax.bound,Ax.append,eY,nZ,Ax.fill,fG,Ax.rows,bU,qX,KP,↓reduceIte,reduceEqDiff,reduceLT,reduceLeDiff,reduceAdd,reduceMul,Nat.reduceBEq,reduceCtorEq,reduceLE,h.cL,h.fO,g0,g3,g5,oc,rS,mE h,List.map_nil,AN,Ot,Pe,F9,vR,A4]
   exact⟨_,1,_,_,rfl,by simp only[FT.dJ,↓reduceIte],rfl,rfl⟩
  ·have hm3:(l.map row).take l.length=l.map row:=ak (by simp)
   have f10:((1+l.length)*2<=2)=False:=by simp only[eq_iff_iff,iff_false];omega
   have r4:roomy (1+l.length) 24=true:=CK _ (by omega)
   simp only[opsOf,cutAt,aA,Tryz.f75,Fz.lits,Fz.apps,eJ,bB,bQ,iX,Ax.comp,rM,Ax.last,dM,Ax.again,Ax.slice,Ax.bound,Ax.append,eY,nZ,Ax.fill,fG,Ax.rows,bU,qX,KP,↓reduceIte,reduceEqDiff,reduceLT,reduceLeDiff,reduceAdd,reduceMul,Nat.reduceBEq,reduceCtorEq,reduceLE,h.cL,h.fO,g0,g3,g5,az,vS,oc,AO,rS,mE h,AN,F9,hm3,f10,r4,vR,FQ]
   exact⟨_,2,_,_,rfl,by simp only[FT.dJ,ki 1 l.length,↓reduceIte],rfl,rfl⟩
 ·by_cases hq:l.length-k=0
  ·have f9:((l.take k).flatMap row++[V.bool x.1,V.str x.2]).drop ((k+1)*2)=[]:=ja (by omega)
   simp only[opsOf,cutAt,aA,Tryz.f75,Fz.lits,Fz.apps,eJ,bB,bQ,iX,Ax.comp,rM,Ax.last,dM,Ax.again,Ax.slice,Ax.bound,Ax.append,eY,nZ,Ax.fill,fG,Ax.rows,bU,qX,KP,↓reduceIte,reduceEqDiff,reduceLT,reduceLeDiff,reduceAdd,reduceMul,Nat.reduceBEq,reduceCtorEq,h.cL,h.fO,g0,g3,g5,az,vS,hd2,dj,oc,hm1,AO,rS,mE h,n1,hp,hq,r1,r2,f1,f2,f3,f4,f6,vR,A4,AN,f9]
   have f12:l.drop k=[]:=ja (by omega)
   have f11:l.length=k:=by omega
   exact⟨_,2,_,_,rfl,by simp only[FT.dJ,f11,KP,↓reduceIte],rfl,by rw[f8];simp[f12]⟩
  ·have f5:((k+1+(l.length-k))*2<=(k+1)*2)=False:=by simp only[eq_iff_iff,iff_false];omega
   simp only[opsOf,cutAt,aA,Tryz.f75,Fz.lits,Fz.apps,eJ,bB,bQ,iX,Ax.comp,rM,Ax.last,dM,Ax.again,Ax.slice,Ax.bound,Ax.append,eY,nZ,Ax.fill,fG,Ax.rows,bU,qX,KP,↓reduceIte,reduceEqDiff,reduceLT,reduceLeDiff,reduceAdd,reduceMul,Nat.reduceBEq,reduceCtorEq,h.cL,h.fO,g0,g3,g5,az,vS,hd2,dj,oc,hm1,hm2,AO,rS,mE h,n1,n2,hp,r1,r2,r3,f1,f2,f3,f4,f5,f6,vR,FQ]
   exact⟨_,3,_,_,rfl,by simp only[FT.dJ,f7,↓reduceIte],rfl,f8.symm⟩
end
end
section
section
variable {E:Env}{Z:Sg}{K:V->Sg->Prop}
theorem Oh:oO 12 .aB .aB=true:=rfl
theorem Kl (Z:Sg):elems Z 2 .aB=some ([],0):=rfl
theorem MV (h:cK E) {x:aJ} (F:FT) (g0:F.get 0=.aB) (g3:F.get 3=.ref 0 0) (g5:F.get 5=.int .i64 0) :
  ∃F' σ',bG E (ev E 0) (opsOf (cutAt [1,1,1,1,0] (aA Tryz.f75).code)) ⟨44,F⟩ [.cells 51 [.bool x.1,.str x.2] true]=some (⟨44,F'⟩,σ')/\F'.get 4=.sl 1 0 1 none/\σ'[1]?=some (.cells 51 [.bool x.1,.str x.2] false):=by
 unfold bG
 rw[h.T_,h.Uf]
 simp only[opsOf,cutAt,aA,Tryz.f75,Fz.lits,Fz.apps,eJ,bB,bQ,iX,Ax.comp,rM,Ax.last,dM,Ax.again,Ax.slice,Ax.bound,Ax.append,eY,nZ,Ax.fill,fG,Ax.rows,bU,qX,KP,↓reduceIte,reduceEqDiff,reduceLT,reduceLeDiff,reduceAdd,reduceMul,Nat.reduceBEq,reduceCtorEq,reduceLE,h.cL,h.fO,g0,g3,g5,Kl,rS,mE h,Pe,F9,vR,Oh]
 exact⟨_,_,rfl,by simp only[FT.dJ,↓reduceIte],rfl⟩
theorem QU (h:cK E) {v:V}{l:List aJ}{x:aJ}(hv:WM v l)(hsm:l.length<=100000000000):aC E 75 [v,.agg [.bool x.1,.str x.2]] Z λv' σ'=>σ'=Z/\WM v' (put l x):=by
 have e1:aQ Z E.ty true v=some v:=by rcases hv with⟨rfl,_⟩ | ⟨full,rfl⟩ <;> rfl
 have e2:aQ Z E.ty true (.agg [.bool x.1,.str x.2])=some (.agg [.bool x.1,.str x.2]):=rfl
 have la:∀Z,lenOf E Z 23 v=some l.length:=λZ=>AA h (hv.lv.sv Z)
 have hk:pos l x<=l.length:=Ge l x
 have d4:=h.abu
 simp only[aA,Tryz.f75,cutAt,ag]at d4
 rw[aH h.hs75 h.sp75 h.fn75 h.md75 (args':=[v,.agg [.bool x.1,.str x.2]]) (by simp only[aU,e1,e2]),aX (by kernel_rfl)]
 simp only[aA,Tryz.f75,KP,↓reduceIte,reduceLT,reduceAdd,h.cL]
 refine MW h hv.lv (by omega) (λF' g0 g3 g5=>?_) (pos l x) 0 _ (by omega) ?_ ?_ ?_
 rotate_left
 ·simp only[FT.dJ,↓reduceIte,reduceCtorEq]
 ·simp only[FT.dJ,↓reduceIte,reduceEqDiff]
 ·simp only[FT.dJ,KP,↓reduceIte]
  try rfl
 have fin:l[pos l x]?≠some x->∀(F2:FT),F2.get 0=v->F2.get 3=.ref 0 0->F2.get 5=.int .i64 (pos l x:Int) ->
   R E (.region 6 (opsOf (cutAt [1,1,1,1,0] (aA Tryz.f75).code)) true) [.k .ret] ⟨44,F2⟩ [.cells 51 [.bool x.1,.str x.2] true] (mQ E (aA Tryz.f75).results λv σ1=>match bW σ1 E.ty false v with
    |some v=>Z=Z/\WM v (put l x)
    |none=>False):=by
  intro hne F2 k0 k3 k5
  have hp:=Gb l x
  rw[ay hne]at hp
  rcases hv with⟨rfl,rfl⟩ | ⟨full,rfl⟩
  ·obtain⟨F3,σ3,hE,q4,qb⟩:=MV h (x:=x) F2 k0 k3 k5
   refine Eq.mpr (fP hE) ?_
   simp only[aA,Tryz.f75,KP,↓reduceIte,reduceLT,q4]
   obtain⟨v',e,hv'⟩:=Mg (Z:=σ3) (l:=[x]) h (.inr (.inr ⟨1,_,_,rfl,qb,rfl⟩))
   have e:bW σ3 E.ty false (.sl 1 0 1 none)=some v':=e
   rw[e]
   exact hv'
  ·obtain⟨F3,b,cs,σ3,hE,q4,qb,qc⟩:=Pp h hsm F2 k0 k3 k5
   refine Eq.mpr (fP hE) ?_
   simp only[aA,Tryz.f75,KP,↓reduceIte,reduceLT,q4]
   have hl:(put l x).length=l.length+1:=by rw[hp,an,bl,aa,qd];omega
   obtain⟨v',e,hv'⟩:=Mg (Z:=σ3) (l:=put l x) h (.inr (.inr ⟨b,cs,false,rfl,qb,by rw[qc,<- hp];exact ak (by rw[kF];omega)⟩))
   rw[<- hl,e]
   exact hv'
 by_cases hil:pos l x<l.length
 ·have hlt:decide ((pos l x:Int)<(l.length:Int))=true:=AT (by omega)
  obtain⟨y,hy⟩:∃y,l[pos l x]?=some y:=⟨_,BY hil⟩
  obtain⟨pa,p1,p2⟩:=wM h (hv.lv.sv [.cells 51 [.bool x.1,.str x.2] true]) hy
  have p2:=p2 _ (dL.refl _)
  by_cases hyx:y=x
  ·have hd:decide (((y.1,y.2):aJ)=(x.1,x.2))=true:=AT hyx
   simp only[KP,↓reduceIte,reduceEqDiff,reduceLT,reduceCtorEq,g0,g3,g5,la,hlt,aK d4,a_,p1,p2,mE h,wL h,hd]
   have hp:=Gb l x
   rw[b8 (by rw[hy,hyx])]at hp
   rw[hp]
   rcases hv with⟨rfl,rfl⟩ | ⟨full,rfl⟩
   ·exact .inl ⟨rfl,rfl⟩
   ·exact .inr ⟨full,rfl⟩
  ·have hd:decide (((y.1,y.2):aJ)=(x.1,x.2))=false:=AI hyx
   simp only[KP,↓reduceIte,reduceEqDiff,reduceLT,reduceCtorEq,g0,g3,g5,la,hlt,aK d4,a_,p1,p2,mE h,wL h,hd]
   have:=fin (by rw[hy];exact λe=>hyx (cv e))
   simp only[true_and]at this
   refine this _ ?_ ?_ ?_ <;> simp only[FT.dJ,g0,g3,g5,↓reduceIte,reduceEqDiff,reduceCtorEq]
 ·have hlt:decide ((pos l x:Int)<(l.length:Int))=false:=AI (by omega)
  simp only[KP,↓reduceIte,reduceEqDiff,reduceLT,reduceCtorEq,g0,g5,la,hlt,aK d4,a_]
  have:=fin (by rw[gu (by omega)];simp)
  simp only[true_and]at this
  refine this _ ?_ ?_ ?_ <;> simp only[FT.dJ,g0,g3,g5,↓reduceIte,reduceEqDiff,reduceCtorEq]
end
end
end Go.Proofs.YtmbikbgdbbcbmaaGreatDoor.Lb
end
section
namespace Go.Proofs.YtmbikbgdbbcbmaaGreatDoor
open Go Go.Ax Go.AxS
section
section
variable {E:Env}{Z:Sg}{K:V->Sg->Prop}
def uE (t:Nat) (Z:Sg) (w:V) (R:List (List V)):Prop:=(w=.aB/\R=[])\/∃b ex,w=.sl b 0 R.length none/\Z[b]?=some (.cells t R.flatten ex)
theorem uE.keep {t:Nat}{Z σ':Sg}{w:V}{R:List (List V)}(h:uE t Z w R) (k:∀c o,aZ w=some c->Z[c]?=some o->σ'[c]?=some o):uE t σ' w R:=by
 rcases h with h | ⟨b,ex,rfl,hb⟩
 ·exact .inl h
 ·exact .inr ⟨b,ex,rfl,k b _ rfl hb⟩
theorem sP {t:Nat}{Z:Sg}{w:V}{R:List (List V)}(h:uE t Z w R) {c:Nat}{o:O}(hc:Z[c]?=some o)(ho:∀cs ex,o≠.cells t cs ex):aZ w≠some c:=by
 rcases h with⟨rfl,-⟩ | ⟨b',ex',rfl,hb'⟩
 ·intro e;cases e
 ·intro e
  cases e
  rw[hc]at hb'
  cases hb'
  exact ho _ _ rfl
theorem I2 {si ei:Ty}{ts t n:Nat}{ats:Array Nat}{w x:V}{u:List V}{R:List (List V)}(hts:E.ty ts=some si)(hk:si.kd=.sl t)(ht:E.ty t=some ei)(hn:ei.size=n)(hn0:0<n)(hpl:eY E ats=true)(hats:ats[0]?=some ts)(hw:uE t Z w R)(hR:∀r∈R,r.length=n)(hu:u.length=n)
  (hx:elems Z n x=some (u,1))(hr:roomy (R.length+1) ei.bytes=true) :
  ∃w' σ',append E Z ats w x=some (w',σ')/\uE t σ' w' (R++[u])/\Sp Z σ' w/\Z.length<=σ'.length:=by
 obtain⟨kd,size,bytes,zero⟩:=si
 replace hk:kd=.sl t:=hk
 subst hk
 have hne:(ei.size==0)=false:=by rw[hn];simp;omega
 have hr2:lF 1 ei.bytes=true:=Am hr (by omega)
 have hx:elems Z ei.size x=some (u,1):=by rw[hn];exact hx
 have hfl:R.flatten.length=R.length*n:=by
  clear hw hr
  induction R with
  |nil=>simp
  |cons r R ih=>rw[da,an,hR r (IN ..),ih λq hq=>hR q (No _ hq),aa,j8,ki]
 have hjoin:R.flatten++u=(R++[u]).flatten:=by simp
 unfold append
 simp only[hats,hts,ht,hpl,hne,hx,di,j9,ai,aq]
 rcases hw with⟨rfl,rfl⟩ | ⟨b,ex,rfl,hbk⟩
 ·simp only[Nat.one_ne_zero,aq,hr2,b9]
  refine⟨_,_,rfl,.inr ⟨Z.length,false,rfl,by simp⟩,λc o e _=>?_,by simp⟩
  rw[bq (AS.1 e).1];exact e
 ·have hform:(t==t&&decide (R.length*ei.size<=R.flatten.length)&&roomy (R.length+1) ei.bytes)=true:=by
   rw[hr,hn,hfl];simp
  have hbig:¬ (R.length+1)*ei.size<=R.flatten.length:=by rw[hn,hfl,ot];omega
  have htk:R.flatten.take (R.length*ei.size)=R.flatten:=ak (by rw[hn,hfl];exact ae _)
  simp only[hbk,cz,hform,di,ai,aq,hbig,b9,htk,eu,hjoin]
  cases ex with
  |true=>
   refine⟨_,_,rfl,.inr ⟨Z.length,false,by simp,by simp⟩,λc o e _=>?_,by simp⟩
   rw[bq (AS.1 e).1];exact e
  |false=>
   refine⟨_,_,rfl,.inr ⟨Z.length,false,by simp,by simp⟩,λc o e hne=>?_,by simp⟩
   have hc:=(AS.1 e).1
   rw[bq (by simpa using hc),OF (λe2=>hne (by rw[e2];rfl))];exact e
def T5 (U:Sg) (r:List V) (x:aD):Prop:=∃a b c w,r=[.str x.name,a,b,c,w]/\iO aM a x.ins/\iO aM b x.outs/\iO aM c x.after/\bH fE 82 U w x.steps
def GX (U:Sg) (w:V) (rs:List aD):Prop:=∃R,uE 46 U w R/\dS (T5 U) R rs
theorem HA {U:Sg}{R:List (List V)}{rs:List aD}(h:dS (T5 U) R rs):∀r∈R,r.length=5:=by
 induction h with
 |nil=>intro r hr;cases hr
 |cons p _ ih=>
  intro r hr
  rcases By.1 hr with rfl | hr
  ·obtain⟨a,b,c,w,e,-⟩:=p
   rw[e];rfl
  ·exact ih r hr
theorem CJ {U τ':Sg}{R:List (List V)}{rs:List aD}(h2:dS (T5 U) R rs) (k:∀(c:Nat) (cs:List V) (ex:Bool),U[c]?=some (.cells 82 cs ex)->τ'[c]?=some (.cells 82 cs ex)):dS (T5 τ') R rs:=by
 induction h2 with
 |nil=>exact .nil
 |cons p _ ih=>
  obtain⟨a,b,c,u,e,i1,i2,i3,ow⟩:=p
  refine .cons ⟨a,b,c,u,e,i1,i2,i3,?_⟩ ih
  rcases ow with h0 | ⟨d,q,ex,rfl,hb,ha⟩
  ·exact .inl h0
  ·exact .inr ⟨d,q,ex,rfl,k _ _ _ hb,ha⟩
theorem GX.keep {U τ':Sg}{w:V}{rs:List aD}(h:GX U w rs) (k:∀(c:Nat) (cs:List V) (ex:Bool) (t:Nat),t=46\/t=82->U[c]?=some (.cells t cs ex)->τ'[c]?=some (.cells t cs ex)):GX τ' w rs:=by
 obtain⟨R,h1,h2⟩:=h
 refine⟨R,?_,?_⟩
 ·rcases h1 with h1 | ⟨b,ex,rfl,hb⟩
  ·exact .inl h1
  ·exact .inr ⟨b,ex,rfl,k _ _ _ _ (.inl rfl) hb⟩
 ·exact CJ h2 λc cs ex e=>k c cs ex _ (.inr rfl) e
theorem X_ (h:bJ E)(hl:Lb.cK E) (rg:Eh E) {va:V}{rs:List aD} (ia:IS bS va rs)(hf:Fits rs) {i:Nat}{x:aD}(hx:rs[i]?=some x) {U:Sg}{rw_ lw nw:V}(h0:U[0]?=some (O.cells 70 [rw_,lw,nw] true))(hR:GX U rw_ (rs.take i))
  (F:FT) (g0:F.get 0=va) (g3:F.get 3=.ref 0 0) (g4:F.get 4=.int .i64 (i:Int)) {st:List iW}{Q:Ax.X->Fr->Sg->Prop}
  (hk:∀F' τ' rw',F'.get 0=va->F'.get 3=.ref 0 0->F'.get 4=.int .i64 (i:Int)->τ'[0]?=some (O.cells 70 [rw',lw,nw] true)->GX τ' rw' (rs.take (i+1))->M E st .normal ⟨132,F'⟩ τ' Q):Ax.R E (.region 5 (opsOf (cutAt [1,1,0,1,2,2,1,0,2,0] (aA Tryz.f14).code)) true) st ⟨132,F⟩ U Q:=by
 have hsm:=hf.small x (af hx)
 obtain⟨g,q1,q2,q3,q4,e1,i1,i2,i3,i4⟩:=dK h ia hx
 obtain⟨n,v,τ1,⟨⟨a,b,c,w,rfl,j1,j2,j3,j4,jb⟩,kp⟩,cc⟩:=aC.up (Rc h (Z:=U) (JP i1 i2 i3 i4) hsm.mid)
 have cc:=cc n (ae _)
 have h1:=kp _ _ h0
 obtain⟨R,hw,hA⟩:=hR
 have k1:=nH j4
 have o1:=aL j1.is.bF
 have o2:=aL j2.is.bF
 have o3:=aL j3.is.bF
 have h2:(τ1++[O.cells 46 [.str x.name,a,b,c,w] true])[0]?=some (O.cells 70 [rw_,lw,nw] true):=aP h1
 have hw2:uE 46 (τ1++[O.cells 46 [.str x.name,a,b,c,w] true]) rw_ R:=hw.keep λc o _ e=>aP (kp _ _ e)
 have hRl:R.length<=40:=by
  rw[hA.len,bl]
  have:=hf.len
  omega
 obtain⟨w',τ2,ap,hw3,Jd,hle3⟩:=I2 (ats:=#[22,22]) h.qA rfl h.bC rfl (by decide) (qE h) rfl hw2 (HA hA) rfl (kO (r:=[.str x.name,a,b,c,w]) (ex:=true) (n:=5) rfl) (cZ (b:=1001) (by decide) (by omega))
 have h3:=Jd _ _ h2 (sP hw2 h2 (by intro cs ex e;cases e))
 have hvq:oO 12 rw_ rw_=true:=by
  rcases hw with⟨rfl,-⟩ | ⟨b,ex,rfl,-⟩
  ·rfl
  ·exact Js 11 _ _ _
 have hok:w'.aW=true/\w'.cells=[w']:=by
  rcases hw3 with⟨rfl,-⟩ | ⟨b,ex,rfl,-⟩ <;> exact⟨rfl,rfl⟩
 have key:∃F',bG E (ev E n) (opsOf (cutAt [1,1,0,1,2,2,1,0,2,0] (aA Tryz.f14).code)) ⟨132,F⟩ U=some (⟨132,F'⟩,τ2.set 0 (O.cells 70 [w',lw,nw] true))/\F'.get 0=va/\F'.get 3=.ref 0 0/\F'.get 4=.int .i64 (i:Int):=by
  unfold bG
  rw[rg.WZ,rg.YC]
  simp only[aA,Tryz.f14,KP,Ax.loadAt,Ax.storeAt,↓reduceIte,reduceEqDiff,reduceLT,reduceLeDiff,reduceAdd,reduceMul,reduceCtorEq,h.qA,h.bC,opsOf,cutAt,Fz.lits,Fz.apps,eJ,bB,bQ,iX,Ax.comp,Ax.last,dM,Ax.again,fl,rg.nQ,g0,g3,g4,h0,h1,h2,h3,e1,cc,ap,hvq,k1.1,o1,o2,o3,hok.1,hok.2,Ax.fill,fG]
  exact⟨_,rfl,(by simp +decide only[GS,g0,g3,g4,aj])⟩
 obtain⟨F',hD,p0,p3,p4⟩:=key
 have hl0:=(AS.1 h3).1
 have ks:∀(e9:Nat) (cs:List V) (ex:Bool),(τ1++[O.cells 46 [.str x.name,a,b,c,w] true])[e9]?=some (.cells 82 cs ex)->(τ2.set 0 (O.cells 70 [w',lw,nw] true))[e9]?=some (.cells 82 cs ex):=λe9 cs ex e=>by
  have e2:=Jd _ _ e (sP hw2 e (by intro cs' ex' e';cases e'))
  rw[OF (λe0=>by rw[<- e0,h3]at e2;cases e2)]
  exact e2
 refine Eq.mpr (fP hD) (hk F' _ w' p0 p3 p4 (bp hl0) ⟨R++[[.str x.name,a,b,c,w]],hw3.keep λc o' hc e=>?_,?_⟩)
 ·rw[OF (λe0=>?_)]
  ·exact e
  ·exact sP hw3 h3 (by intro cs ex e;cases e) (by rw[e0];exact hc)
 ·rw[dh,hx]
  refine dS.append (CJ hA λc cs ex e=>ks c cs ex (aP (kp _ _ e))) (.one ⟨a,b,c,w,rfl,j1,j2,j3,?_⟩)
  rcases j4 with j4 | ⟨d,q,ex,rfl,hb,ha⟩
  ·exact .inl j4
  ·exact .inr ⟨d,q,ex,rfl,ks _ _ _ (aP hb),ha⟩
end
end
section
section
variable {E:Env}{Z:Sg}{K:V->Sg->Prop}
def mF (r:aD):List aJ:=(true,r.name)::(r.ins++r.outs).map λf=>((false,f):aJ)
theorem H7 {rs:List aD}{x:aJ}:x∈rs.flatMap mF ↔ x∈dV rs:=by
 rw[uT,ik]
 unfold mF
 constructor
 ·rintro⟨r,hr,hx⟩
  rcases By.1 hx with rfl | hx
  ·exact .inl (cg.2 ⟨r,hr,rfl⟩)
  ·obtain⟨f,hf,rfl⟩:=cg.1 hx
   rcases bw.1 hf with hf | hf
   ·exact .inr ⟨_,lQ.2 ⟨r,hr,.inl ⟨f,hf,rfl⟩⟩,.inr rfl⟩
   ·exact .inr ⟨_,lQ.2 ⟨r,hr,.inr ⟨f,hf,rfl⟩⟩,.inl rfl⟩
 ·rintro (hx | ⟨p,hp,hx⟩)
  ·obtain⟨r,hr,rfl⟩:=cg.1 hx
   exact⟨r,hr,IN ..⟩
  ·obtain⟨r,hr,⟨f,hf,rfl⟩ | ⟨f,hf,rfl⟩⟩:=lQ.1 hp
   ·rcases hx with rfl | rfl
    ·exact⟨r,hr,IN ..⟩
    ·exact⟨r,hr,No _ (cg.2 ⟨f,bw.2 (.inl hf),rfl⟩)⟩
   ·rcases hx with rfl | rfl
    ·exact⟨r,hr,No _ (cg.2 ⟨f,bw.2 (.inr hf),rfl⟩)⟩
    ·exact⟨r,hr,IN ..⟩
theorem X9 (h:bJ E)(hl:Lb.cK E) (rg:Eh E) {va:V}{rs:List aD} (ia:IS bS va rs)(hf:Fits rs) {i:Nat}{x:aD}(hx:rs[i]?=some x) {U:Sg}
  (F:FT) (g0:F.get 0=va) (g3:F.get 3=.ref 0 0) (g4:F.get 4=.int .i64 (i:Int)) {st:List iW}{Q:Ax.X->Fr->Sg->Prop}
  (hk:∀F' τ' w,F'.get 0=va->F'.get 3=.ref 0 0->F'.get 4=.int .i64 (i:Int)->F'.get 56=w->F'.get 57=.int .i64 ((x.ins++x.outs).length:Int)->F'.get 58=.int .i64 0->bH aM 9 τ' w (x.ins++x.outs)->Kp U τ'->M E st .normal ⟨132,F'⟩ τ' Q):Ax.R E (.region 7 (opsOf (cutAt [1,1,0,1,2,2,1,0,2,1,1,0] (aA Tryz.f14).code)) true) st ⟨132,F⟩ U Q:=by
 have hsm:=hf.small x (af hx)
 have s1:=hsm.ins
 have s2:=hsm.outs
 obtain⟨g,q1,q2,q3,q4,e1,i1,i2,-⟩:=dK h ia hx
 obtain⟨r1,el1,a1⟩:=mI i1 U
 obtain⟨y1,τ1,ap1,ow1,Uc,hle1,fr1⟩:=iB (w:=.aB) (l:=[]) (ats:=#[24,24]) h.aY rfl h.cM rfl (by decide) (iD h) rfl (.inl ⟨rfl,rfl⟩:bH aM 9 U .aB []) el1 a1 (cZ (b:=1000) (by decide) (by rw[bf];omega))
 rw[cq]at ow1
 obtain⟨r2,el2,a2⟩:=mI i2 τ1
 obtain⟨y2,τ2,ap2,ow2,JC,hle2,fr2⟩:=iB (ats:=#[24,24]) h.aY rfl h.cM rfl (by decide) (iD h) rfl ow1 el2 a2 (cZ (b:=1000) (by decide) (by omega))
 have kp:Kp U τ2:=λc o e=>JC c o (Uc c o e (by intro e2;cases e2)) λe2=>by
  rcases fr1 c e2 with e3 | e3
  ·cases e3
  ·have:=(AS.1 e).1
   omega
 have lw:=pM h.aY rfl ow2.ls
 have hvq:=bV 10 i2
 have key:∃F',bG E (ev E 0) (opsOf (cutAt [1,1,0,1,2,2,1,0,2,1,1,0] (aA Tryz.f14).code)) ⟨132,F⟩ U=some (⟨132,F'⟩,τ2)/\F'.get 0=va/\F'.get 3=.ref 0 0/\F'.get 4=.int .i64 (i:Int)/\F'.get 56=y2/\F'.get 57=.int .i64 ((x.ins++x.outs).length:Int)/\F'.get 58=.int .i64 0:=by
  unfold bG
  rw[rg.WY,rg.YB]
  simp only[aA,Tryz.f14,KP,Ax.loadAt,↓reduceIte,reduceEqDiff,reduceLT,reduceAdd,reduceCtorEq,h.aY,h.bC,opsOf,cutAt,Fz.apps,eJ,bB,bQ,iX,Ax.comp,Ax.last,dM,Ax.again,aS,g0,g4,e1,ap1,ap2,hvq,lw]
  exact⟨_,rfl,(by simp +decide only[GS,g0,g3,g4,aj])⟩
 obtain⟨F',hD,p0,p3,p4,p56,p57,p58⟩:=key
 exact Eq.mpr (fP hD) (hk F' τ2 y2 p0 p3 p4 p56 p57 p58 ow2 kp)
theorem Ll {U:Sg}{w:V}{rs:List aD}{cs:List V}{y:O}(h:GX U w rs)(h0:U[0]?=some (.cells 70 cs true)):GX (U.set 0 y) w rs:=h.keep λc cs' ex t ht e=>by
 rw[OF (λe0=>?_)]
 ·exact e
 ·rw[<- e0,h0]at e
  rcases ht with rfl | rfl <;> cases e
theorem MB {U:Sg}{w:V}{l:List bD}{cs:List V}{y:O} (ow:bH aM 9 U w l)(h0:U[0]?=some (.cells 70 cs true)):bH aM 9 (U.set 0 y) w l:=ow.keep λc o hc e=>by
 rw[OF (λe0=>kV h0 (by decide) ow (by rw[e0];exact hc))]
 exact e
theorem PV {v:V}{l:List aJ}(hv:Cc v l):v.aW=true/\v.cells=[v]:=by rcases hv with⟨rfl,-⟩ | ⟨f,rfl⟩ <;> exact⟨rfl,rfl⟩
theorem Pf (h:bJ E)(hl:Lb.cK E) (rg:Eh E) {va:V}{rs:List aD} (ia:IS bS va rs)(hf:Fits rs) {U:Sg}{nw:V}(h0:U[0]?=some (O.cells 70 [.aB,.aB,nw] true))(hno:nw.aW=true)
  (F:FT) (g0:F.get 0=va) (g3:F.get 3=.ref 0 0) {st:List iW}{Q:Ax.X->Fr->Sg->Prop}
  (hk:∀F' τ' w lv,F'.get 0=va->F'.get 3=.ref 0 0->τ'[0]?=some (O.cells 70 [w,lv,nw] true)->GX τ' w rs->Cc lv (dV rs)->M E st .normal ⟨132,F'⟩ τ' Q):Ax.R E (cutAt [1,1,0] (aA Tryz.f14).code) st ⟨132,F⟩ U Q:=by
 have la:=cI h ia
 have hlen:=hf.len
 have hal:=nW hf
 have r5:=λ{i x} hx {U rw_ lw} h0 hR F g0 g3 g4 st Q hk=>X_ (i:=i) (x:=x) (U:=U) (rw_:=rw_) (lw:=lw) (nw:=nw) h hl rg ia hf hx h0 hR F g0 g3 g4 (st:=st) (Q:=Q) hk
 have r7:=λ{i x} hx {U} F g0 g3 g4 st Q hk=>X9 (i:=i) (x:=x) (U:=U) h hl rg ia hf hx F g0 g3 g4 (st:=st) (Q:=Q) hk
 have d6:=rg.abL
 simp only[aA,Tryz.f14,cutAt,ag]at d6
 rw[show (cutAt [1,1,0] (aA Tryz.f14).code)=.seq (cutAt [1,1,0,0] (aA Tryz.f14).code) (.block 0 (.loop (.seq (cutAt [1,1,0,1,2,2,0] (aA Tryz.f14).code) (.seq (.block 1 (.seq (cutAt [1,1,0,1,2,2,1,0,2,0] (aA Tryz.f14).code) (.seq (cutAt [1,1,0,1,2,2,1,0,2,1,0] (aA Tryz.f14).code) (.seq (cutAt [1,1,0,1,2,2,1,0,2,1,1,0] (aA Tryz.f14).code) (cutAt [1,1,0,1,2,2,1,0,2,1,1,1] (aA Tryz.f14).code))))) (cutAt [1,1,0,1,2,2,1,1] (aA Tryz.f14).code))))) from rfl]
 rw[show cutAt [1,1,0,1,2,2,1,0,2,0] (aA Tryz.f14).code=.region 5 (opsOf (cutAt [1,1,0,1,2,2,1,0,2,0] (aA Tryz.f14).code)) true from rfl,show cutAt [1,1,0,1,2,2,1,0,2,1,1,0] (aA Tryz.f14).code=.region 7 (opsOf (cutAt [1,1,0,1,2,2,1,0,2,1,1,0] (aA Tryz.f14).code)) true from rfl]
 generalize opsOf (cutAt [1,1,0,1,2,2,1,0,2,0] (aA Tryz.f14).code)=O5 at r5 ⊢
 generalize opsOf (cutAt [1,1,0,1,2,2,1,0,2,1,1,0] (aA Tryz.f14).code)=O7 at r7 ⊢
 simp only[aA,Tryz.f14,KP,↓reduceIte,reduceLT,cutAt]
 refine aV (λi F U=>F.get 0=va/\F.get 3=.ref 0 0/\F.get 4=.int .i64 (i:Int)/\∃w lv L,U[0]?=some (O.cells 70 [w,lv,nw] true)/\GX U w (rs.take i)/\Cc lv L/\Up L/\∀x,x∈L ↔ x∈(rs.take i).flatMap mF) rs.length ?_ ?_ rs.length 0 _ _ (by omega) (gE (by simp +decide only[GS,g0,g3,aj]) ⟨.aB,.aB,[],h0,⟨[],.inl ⟨rfl,rfl⟩,.nil⟩,.inl ⟨rfl,rfl⟩,List.Pairwise.nil,λx=>by simp⟩)
 ·clear h0 g0 g3
  rintro i F U hi ⟨g0,g3,g4,w,lv,L,h0,hR,hL,hup,hmem⟩ next
  obtain⟨x,hx⟩:∃y,rs[i]?=some y:=⟨_,BY hi⟩
  have hxm:=af hx
  obtain⟨g,q1,q2,q3,q4,e1,-⟩:=dK h ia hx
  have hlt:=eC hi
  have hadd:=bY i (by omega)
  have hsub:∀(P:List aJ),(∀y,y∈P->y∈rs.flatMap mF)->P.Nodup->P.length<=2000:=λP hP hn=>gh (pJ hn λy hy=>H7.1 (hP y hy)) hal
  have htk:∀y,y∈(rs.take i).flatMap mF->y∈rs.flatMap mF:=λy hy=>by
   obtain⟨r,hr,hy⟩:=ik.1 hy
   exact ik.2 ⟨r,ji hr,hy⟩
  have hxl:∀y,y∈mF x->y∈rs.flatMap mF:=λy hy=>ik.2 ⟨x,hxm,hy⟩
  rw[aF]
  simp only[KP,↓reduceIte,reduceEqDiff,reduceLT,reduceCtorEq,g0,g4,la,hlt]
  refine r5 hx h0 hR _ ?_ ?_ ?_ _ _ (λF1 τ1 w1 p0 p3 p4 h1 hR1=>?_)
  ·simp +decide only[GS,g0]
  ·simp +decide only[GS,g3]
  ·simp +decide only[GS,g4]
  clear hR h0 g0 g3 g4
  rw[PU]
  simp only[KP,Ax.loadAt,↓reduceIte,reduceEqDiff,reduceLT,reduceAdd,reduceCtorEq,h.uC,h.cM,h.fO,h.bC,h.cL,rg.nQ,p0,p3,p4,h1,e1,Ax.fill,Ax.placeOf,aK d6,a_]
  refine aO (Lb.QU hl (x:=((true,x.name):aJ)) (show Lb.WM lv L from hL) (by have:=hsub L (λy hy=>htk y ((hmem y).1 hy)) hup.nodup;omega)) ?_
  rintro lv1 τ' ⟨e,hL1⟩
  subst e
  have hL1:Cc lv1 (put L (true,x.name)):=hL1
  have k1:=PV hL1
  have hup1:Up (put L (true,x.name)):=CN hup
  have hmem1:∀y,y∈put L (true,x.name) ↔ y∈(rs.take i).flatMap mF\/y=(true,x.name):=λy=>by rw[sW,hmem]
  generalize put L (true,x.name)=L1 at hL1 hup1 hmem1
  simp only[KP,Ax.storeAt,↓reduceIte,reduceEqDiff,reduceLT,reduceLeDiff,reduceAdd,reduceCtorEq,h.fO,rg.nQ,h1,k1.1,k1.2]
  have h2:(τ'.set 0 (O.cells 70 [w1,lv1,nw] true))[0]?=some (O.cells 70 [w1,lv1,nw] true):=bp (AS.1 h1).1
  have hR2:GX (τ'.set 0 (O.cells 70 [w1,lv1,nw] true)) w1 (rs.take (i+1)):=Ll hR1 h1
  generalize τ'.set 0 (O.cells 70 [w1,lv1,nw] true)=τ2 at h2 hR2 ⊢
  refine r7 hx _ ?_ ?_ ?_ _ _ (λF2 τ3 wf z0 z3 z4 z56 z57 z58 ow kp=>?_)
  ·simp +decide only[GS,p0]
  ·simp +decide only[GS,p3]
  ·simp +decide only[GS,p4]
  have h3:=kp _ _ h2
  have hR3:GX τ3 w1 (rs.take (i+1)):=hR2.keep λc cs ex t _ e=>kp _ _ e
  have hxf:∀f,f∈x.ins++x.outs->((false,f):aJ)∈mF x:=λf hf=>No _ (cg.2 ⟨f,hf,rfl⟩)
  have hfl:(x.ins++x.outs).length<=100:=by
   have:=(hf.small x hxm).ins
   have:=(hf.small x hxm).outs
   rw[an]
   omega
  have hlabs:mF x=(true,x.name)::(x.ins++x.outs).map λf=>((false,f):aJ):=rfl
  generalize x.ins++x.outs=fs at z57 ow hxf hfl hlabs
  rw[PU]
  simp only[KP]
  refine aV (λj F U=>F.get 0=va/\F.get 3=.ref 0 0/\F.get 4=.int .i64 (i:Int)/\F.get 56=wf/\F.get 57=.int .i64 (fs.length:Int)/\F.get 58=.int .i64 (j:Int)/\∃lv L,U[0]?=some (O.cells 70 [w1,lv,nw] true)/\GX U w1 (rs.take (i+1))/\bH aM 9 U wf fs/\Cc lv L/\Up L/\∀y,y∈L ↔ (y∈(rs.take i).flatMap mF\/y=(true,x.name))\/y∈(fs.take j).map λf=>((false,f):aJ)) fs.length ?_ ?_ fs.length 0 _ _ (by omega) ⟨(by simp +decide only[z0]),(by simp +decide only[z3]),(by simp +decide only[z4]),(by simp +decide only[z56]),(by simp +decide only[z57]),(by simp +decide only[GS,z58]),lv1,L1,h3,hR3,ow,hL1,hup1,λy=>by rw[hmem1];simp⟩
  ·clear h3 hR3 ow hup1 hmem1 k1
   rintro j F U hj ⟨g0,g3,g4,g56,g57,g58,lv,L,h0,hR,ow,hL,hup,hmem⟩ next2
   obtain⟨f,hfj⟩:∃y,fs[j]?=some y:=⟨_,BY hj⟩
   obtain⟨pp,r,f1,f2,-,f3,-⟩:=Fv (Z:=U) h.aY rfl h.cM rfl ow.ls hfj
   have f3:=f3 rfl (by decide)
   rw[show r=[.str f] from f2]at f3
   have f3:loadAt E U 9 pp=some (.str f):=f3
   have hlt2:=eC hj
   have hadd2:=bY j (by omega)
   have lg:loadAt E U 23 (.ref 0 1)=some lv:=by unfold Ax.loadAt;simp only[hl.fO,h0];rfl
   rw[aF]
   simp only[KP,↓reduceIte,reduceEqDiff,reduceLT,reduceAdd,reduceCtorEq,h.uC,h.cM,h.fO,h.cL,rg.nQ,g3,g56,g57,g58,hlt2,f1,f3,lg,Ax.fill,Ax.placeOf]
   refine aO (Lb.QU hl (x:=((false,f):aJ)) (show Lb.WM lv L from hL) (by
    have:=hsub L (λy hy=>?_) hup.nodup
    ·omega
    ·rcases (hmem y).1 hy with (h1 | rfl) | h1
     ·exact htk y h1
     ·exact hxl _ (IN ..)
     ·obtain⟨f',hf',rfl⟩:=cg.1 h1
      exact hxl _ (hxf f' (ji hf')))) ?_
   rintro lv2 τ4 ⟨e,hL2⟩
   subst e
   have hL2:Cc lv2 (put L (false,f)):=hL2
   have k2:=PV hL2
   simp only[KP,Ax.storeAt,↓reduceIte,reduceEqDiff,reduceLT,reduceLeDiff,reduceAdd,reduceCtorEq,h.fO,rg.nQ,g58,h0,hadd2,k2.1,k2.2]
   refine next2 _ _ (Bt (by simp +decide only[GS,g0,g3,g4,g56,g57,aj]) ⟨lv2,put L (false,f),bp (AS.1 h0).1,Ll hR h0,MB ow h0,hL2,CN hup,λy=>?_⟩)
   rw[sW,hmem,dh,hfj,gp,bw,or_assoc]
   simp
  ·clear h3 hR3 ow hup1 hmem1 k1
   rintro F U ⟨g0,g3,g4,g56,g57,g58,lv,L,h0,hR,ow,hL,hup,hmem⟩
   rw[ak (ae _)]at hmem
   have hlt2:=eG (bg fs.length)
   rw[aF]
   simp only[KP,↓reduceIte,reduceEqDiff,reduceLT,g4,g57,g58,hlt2,hadd]
   refine next _ _ (gE (by simp +decide only[GS,g0,g3,aj]) ⟨w1,lv,L,h0,hR,hL,hup,λy=>?_⟩)
   rw[hmem,dh,hx,List.flatMap_append,bw,or_assoc]
   refine or_congr po ?_
   rw[show (some x).toList.flatMap mF=mF x by simp,hlabs,By]
 ·rintro F U ⟨g0,g3,g4,w,lv,L,h0,hR,hL,hup,hmem⟩
  rw[ak (ae _)]at hR hmem
  have hlt:=eG (bg rs.length)
  rw[aF]
  simp only[KP,↓reduceIte,reduceEqDiff,reduceLT,reduceCtorEq,g0,g4,la,hlt]
  have hLa:L=dV rs:=xJ hup (Cb rs) λy=>by rw[hmem];exact H7
  rw[hLa]at hL
  exact hk _ _ w lv (by simp +decide only[GS,g0]) (by simp +decide only[GS,g3]) h0 hR hL
end
end
section
section
variable {E:Env}{Z:Sg}{K:V->Sg->Prop}
def KT (U τ':Sg):Prop:=∀(c t:Nat) (cs:List V) (ex:Bool),t≠70->t≠105->U[c]?=some (.cells t cs ex)->τ'[c]?=some (.cells t cs ex)
theorem Pg (n:Nat):fG n [V.bool false]=((List.replicate n false).map λb=>[V.bool b]).flatten:=by
 induction n with
 |zero=>rfl
 |succ n ih=>rw[fG,ih];rfl
theorem Mn:∀l:List Bool,dS rV.P (l.map λb=>[V.bool b]) l
 | []=>.nil
 |b::l=>.cons rfl (Mn l)
theorem Qv {u:V}(ho:u.aW=true)(hc:u.cells=[u]):Ax.fill (λj=>some (j*1,1)) (fG 1 [V.aB]) [(0,u)]=some [u]:=by
 unfold Ax.fill
 simp only[hc]
 simp only[ig,jm,ho]
 rfl
theorem Vg (h:bJ E)(hl:Lb.cK E) (rg:Eh E) {U:Sg}{rw_ lv nw:V}{L:List aJ}{R:List (List V)}(hL:Cc lv L)(hn:L.length<=2000)(h0:U[0]?=some (O.cells 70 [rw_,lv,nw] true))(hw:uE 105 U nw R)(hR:∀r∈R,r.length=1)(hRl:R.length<=2000)
  {va:V}{i:Nat} (F:FT) (g0:F.get 0=va) (g3:F.get 3=.ref 0 0) (g7:F.get 7=.int .i64 (i:Int)) {st:List iW}{Q:Ax.X->Fr->Sg->Prop}
  (hk:∀F' τ' nw',F'.get 0=va->F'.get 3=.ref 0 0->F'.get 7=.int .i64 (i:Int)->τ'[0]?=some (O.cells 70 [rw_,lv,nw'] true)->uE 105 τ' nw' (R++[[.sl U.length 0 L.length none]])->bH rV 4 τ' (.sl U.length 0 L.length none) (List.replicate L.length false)->KT U τ'->U.length<=τ'.length->M E st .normal ⟨132,F'⟩ τ' Q):Ax.R E (.region 15 (opsOf (cutAt [1,1,1,0,1,2,2,1,0,2,0] (aA Tryz.f14).code)) true) st ⟨132,F⟩ U Q:=by
 have ll:=uW h hL.Qg.is
 have m2:decide ((L.length:Int)<=(L.length:Int))=true:=AT (by omega)
 have m3:decide ((L.length:Int)*((1:Nat):Int)<=1099511627776)=true:=AT (by omega)
 have m3'':decide ((L.length:Int)<=1099511627776)=true:=AT (by omega)
 generalize hB:O.cells 4 (fG L.length [V.bool false]) true=B1
 generalize hu:V.sl U.length 0 L.length none=u at hk
 have h1:(U++[B1])[0]?=some (O.cells 70 [rw_,lv,nw] true):=aP h0
 have h2:(U++[B1]++[O.cells 105 [u] true])[0]?=some (O.cells 70 [rw_,lv,nw] true):=aP h1
 have hw2:uE 105 (U++[B1]++[O.cells 105 [u] true]) nw R:=hw.keep λc o _ e=>aP (aP e)
 obtain⟨w',τ2,ap,hw3,Jd,hle3⟩:=I2 (ats:=#[68,68]) h.uH rfl h.lO rfl (by decide) (JS h) rfl hw2 hR (show [u].length=1 from rfl) (kO (r:=[u]) (ex:=true) (n:=1) rfl) (cZ (b:=3000) (by decide) (by omega))
 have h3:=Jd _ _ h2 (sP hw2 h2 (by intro cs ex e;cases e))
 have hvq:oO 12 nw nw=true:=by
  rcases hw with⟨rfl,-⟩ | ⟨b,ex,rfl,-⟩
  ·rfl
  ·exact Js 11 _ _ _
 have hok:w'.aW=true/\w'.cells=[w']:=by
  rcases hw3 with⟨rfl,-⟩ | ⟨b,ex,rfl,-⟩ <;> exact⟨rfl,rfl⟩
 have huo:u.aW=true/\u.cells=[u]:=by rw[<- hu];exact⟨rfl,rfl⟩
 have ff:=Qv huo.1 huo.2
 have key:∃F',bG E (ev E 0) (opsOf (cutAt [1,1,1,0,1,2,2,1,0,2,0] (aA Tryz.f14).code)) ⟨132,F⟩ U=some (⟨132,F'⟩,τ2.set 0 (O.cells 70 [rw_,lv,w'] true))/\F'.get 0=va/\F'.get 3=.ref 0 0/\F'.get 7=.int .i64 (i:Int):=by
  unfold bG
  rw[rg.Uu,rg.Vm]
  simp only[aA,Tryz.f14,KP,Ax.loadAt,Ax.storeAt,↓reduceIte,reduceEqDiff,reduceLT,reduceLeDiff,reduceAdd,reduceMul,reduceCtorEq,h.uC,h.fO,h.uH,h.lO,opsOf,cutAt,Fz.lits,Fz.apps,eJ,bB,bQ,iX,Ax.comp,Ax.last,dM,Ax.again,aS,rg.nQ,g3,h0,h1,h2,h3,ll,m2,m3,m3'',dj,hB,hu,ff,ap,hvq,hok.1,hok.2]
  exact⟨_,rfl,(by simp +decide only[GS,g0,g3,g7,aj])⟩
 obtain⟨F',hD,p0,p3,p7⟩:=key
 have hl0:=(AS.1 h3).1
 have ks:∀(c t:Nat) (cs:List V) (ex:Bool),t≠70->t≠105->(U++[B1]++[O.cells 105 [u] true])[c]?=some (.cells t cs ex)->(τ2.set 0 (O.cells 70 [rw_,lv,w'] true))[c]?=some (.cells t cs ex):=λc t cs ex t1 t2 e=>by
  have e2:=Jd _ _ e (sP hw2 e (by intro cs' ex' e';cases e';exact t2 rfl))
  rw[OF (λe0=>by rw[<- e0,h3]at e2;cases e2;exact t1 rfl)]
  exact e2
 refine Eq.mpr (fP hD) (hk F' _ w' p0 p3 p7 (bp hl0) (hw3.keep λc o' hc e=>?_) ?_ (λc t cs ex t1 t2 e=>ks c t cs ex t1 t2 (aP (aP e))) (by rw[fc];exact gh (by rw[an,an];omega) hle3))
 ·rw[OF (λe0=>sP hw3 h3 (by intro cs ex e;cases e) (by rw[e0];exact hc))]
  exact e
 ·rw[<- hu]
  refine .inr ⟨U.length,(List.replicate L.length false).map λb=>[V.bool b],true,by rw[List.length_replicate],?_,Mn _⟩
  rw[<- Pg]
  exact ks _ 4 _ _ (by decide) (by decide) (aP (by rw[<- hB];exact aR))
theorem SQ (h:bJ E) {U:Sg}{w u:V}{R:List (List V)}(hw:uE 105 U w (R++[[u]]))(hR:∀r∈R,r.length=1):∃b,indexAddr E 68 w (.int .i64 (R.length:Int))=some (.ref b R.length)/\loadAt E U 105 (.ref b R.length)=some u:=by
 rcases hw with⟨-,e⟩ | ⟨b,ex,rfl,hb⟩
 ·simp at e
 ·have hfl:R.flatten.length=R.length:=by
   clear hb
   induction R with
   |nil=>rfl
   |cons r R ih=>rw[da,an,hR r (IN ..),ih λq hq=>hR q (No _ hq),aa];omega
  have hneg:¬ ((R.length:Int)<0):=by omega
  refine⟨b,?_,?_⟩
  ·unfold indexAddr
   simp only[hneg,aq,h.uH,h.lO,dj,an,jf,jy,b9,cz,nf]
  ·unfold Ax.loadAt
   have hd:(R++[[u]]).flatten.drop R.length=[u]:=by
    rw[List.flatten_append,qf,hfl,ju,ja (by rw[hfl];exact ae _)]
    simp
   simp only[h.lO,hb]
   have h0:((R++[[u]]).flatten.drop R.length)[0]?=some u:=by rw[hd];rfl
   rw[me,kj]at h0
   exact h0
end
end
section
section
variable {E:Env}{Z:Sg}{K:V->Sg->Prop}
def nd (rs:List aD) (i k:Nat):Bool:=match (dV rs)[i]?,(dV rs)[k]? with
 |some x,some y=>decide (y∈iK rs x)
 |_,_=>false
theorem PE {rs:List aD}{i k:Nat}{x y:aJ}(hx:(dV rs)[i]?=some x)(hy:(dV rs)[k]?=some y):nd rs i k=decide (y∈iK rs x):=by unfold nd;rw[hx,hy]
def Us (U:Sg) (R:List (List V)) (m:List (List Bool)) (bd:Nat):Prop:=dS (λr l=>∃u,r=[u]/\bH rV 4 U u l/\∀b,aZ u=some b->b<bd) R m
theorem J0 {U:Sg}{R:List (List V)}{m:List (List Bool)}{bd:Nat}(h:Us U R m bd):∀r∈R,r.length=1:=by
 induction h with
 |nil=>intro r hr;cases hr
 |cons p _ ih=>
  intro r hr
  rcases By.1 hr with rfl | hr
  ·obtain⟨u,e,-⟩:=p
   rw[e];rfl
  ·exact ih r hr
theorem Gh {U τ':Sg}{R:List (List V)}{m:List (List Bool)}{bd bd':Nat}(h:Us U R m bd)(hb:bd<=bd') (k:∀(c:Nat) (cs:List V) (ex:Bool),c<bd->U[c]?=some (.cells 4 cs ex)->τ'[c]?=some (.cells 4 cs ex)):Us τ' R m bd':=by
 induction h with
 |nil=>exact .nil
 |cons p _ ih=>
  obtain⟨u,e,ow,hlt⟩:=p
  refine .cons ⟨u,e,?_,λb hb'=>gv (hlt b hb') hb⟩ ih
  rcases ow with h0 | ⟨d,q,ex,rfl,hc,ha⟩
  ·exact .inl h0
  ·exact .inr ⟨d,q,ex,rfl,k _ _ _ (hlt d rfl) hc,ha⟩
theorem R5 {f:Nat->Bool}{n k:Nat}(hk:k<n):((List.range k).map f++List.replicate (n-k) false).set k (f k)=(List.range (k+1)).map f++List.replicate (n-(k+1)) false:=by
 rw[mc _ _ (by simp),az,l7,ju,show n-k=(n-(k+1))+1 by omega,List.replicate_succ,jk,List.range_succ,gp,cm]
 rfl
theorem R7 (h:bJ E)(hl:Lb.cK E) (rg:Eh E) {va:V}{rs:List aD} (ia:IS bS va rs)(hf:Fits rs) {U:Sg}{rw_ lv:V}(h0:U[0]?=some (O.cells 70 [rw_,lv,.aB] true))(hR:GX U rw_ rs)(hL:Cc lv (dV rs))
  (F:FT) (g0:F.get 0=va) (g3:F.get 3=.ref 0 0) {st:List iW}{Q:Ax.X->Fr->Sg->Prop}
  (hk:∀F' τ' nw R bd,F'.get 0=va->F'.get 3=.ref 0 0->τ'[0]?=some (O.cells 70 [rw_,lv,nw] true)->GX τ' rw_ rs->uE 105 τ' nw R->Us τ' R (HV (dV rs).length (nd rs)) bd->M E st .normal ⟨132,F'⟩ τ' Q):Ax.R E (cutAt [1,1,1,0] (aA Tryz.f14).code) st ⟨132,F⟩ U Q:=by
 have hal:=nW hf
 have ll:=uW h hL.Qg.is
 have r15:=λ{U nw R} (i:Nat) h0 hw hR hRl F g0 g3 g7 st Q hk=>Vg (U:=U) (rw_:=rw_) (lv:=lv) (nw:=nw) (L:=dV rs) (R:=R) (va:=va) (i:=i) h hl rg hL hal h0 hw hR hRl F g0 g3 g7 (st:=st) (Q:=Q) hk
 have d19:=rg.Wg
 simp only[aA,Tryz.f14,cutAt,ag]at d19
 rw[show (cutAt [1,1,1,0] (aA Tryz.f14).code)=.seq (cutAt [1,1,1,0,0] (aA Tryz.f14).code) (.block 4 (.loop (.seq (cutAt [1,1,1,0,1,2,2,0] (aA Tryz.f14).code) (.seq (.block 5 (.seq (cutAt [1,1,1,0,1,2,2,1,0,2,0] (aA Tryz.f14).code) (cutAt [1,1,1,0,1,2,2,1,0,2,1] (aA Tryz.f14).code))) (cutAt [1,1,1,0,1,2,2,1,1] (aA Tryz.f14).code))))) from rfl]
 rw[show cutAt [1,1,1,0,1,2,2,1,0,2,0] (aA Tryz.f14).code=.region 15 (opsOf (cutAt [1,1,1,0,1,2,2,1,0,2,0] (aA Tryz.f14).code)) true from rfl]
 generalize opsOf (cutAt [1,1,1,0,1,2,2,1,0,2,0] (aA Tryz.f14).code)=O15 at r15 ⊢
 simp only[aA,Tryz.f14,KP,↓reduceIte,reduceLT,cutAt]
 refine aV (λi F U=>F.get 0=va/\F.get 3=.ref 0 0/\F.get 7=.int .i64 (i:Int)/\∃nw R bd,U[0]?=some (O.cells 70 [rw_,lv,nw] true)/\GX U rw_ rs/\uE 105 U nw R/\Us U R ((List.range i).map λi=>(List.range (dV rs).length).map (nd rs i)) bd/\bd<=U.length) (dV rs).length ?_ ?_ (dV rs).length 0 _ _ (by omega) (gE (by simp +decide only[GS,g0,g3,aj]) ⟨.aB,[],0,h0,hR,.inl ⟨rfl,rfl⟩,.nil,gz _⟩)
 ·clear h0 hR g0 g3
  rintro i F U hi ⟨g0,g3,g7,nw,R,bd,h0,hR,hw,hm,hbd⟩ next
  obtain⟨x,hx⟩:∃y,(dV rs)[i]?=some y:=⟨_,BY hi⟩
  have hRi:R.length=i:=by have:=hm.len;rw[this,az,l7]
  have hlt:=eC hi
  have hadd:=bY i (by omega)
  have lg:loadAt E U 23 (.ref 0 1)=some lv:=by unfold Ax.loadAt;simp only[hl.fO,h0];rfl
  rw[aF]
  simp only[KP,↓reduceIte,reduceEqDiff,reduceLT,reduceCtorEq,h.fO,rg.nQ,g3,g7,lg,ll,hlt]
  refine r15 i h0 hw (J0 hm) (by omega) _ ?_ ?_ ?_ _ _ (λF1 τ1 nw1 p0 p3 p7 h1 hw1 ow1 kt hle=>?_)
  ·simp +decide only[GS,g0]
  ·simp +decide only[GS,g3]
  ·simp +decide only[GS,g7]
  have hR1:GX τ1 rw_ rs:=hR.keep λc cs ex t ht e=>kt c t cs ex (by rcases ht with rfl | rfl <;> decide) (by rcases ht with rfl | rfl <;> decide) e
  have hm1:Us τ1 R ((List.range i).map λi=>(List.range (dV rs).length).map (nd rs i)) U.length:=Gh hm hbd λc cs ex _ e=>kt c 4 cs ex (by decide) (by decide) e
  have hlen1:U.length<τ1.length:=by
   rcases ow1 with⟨e,-⟩ | ⟨b,q,ex,e,hb,-⟩
   ·cases e
   ·have e2:some U.length=some b:=au aZ e
    rw[cv e2]
    exact (AS.1 hb).1
  have hR1len:=J0 hm1
  clear hR hw hm h0 kt g0 g3 g7 lg
  generalize hbu:U.length=bu at *
  rw[PU]
  simp only[KP,↓reduceIte,reduceLT]
  refine aV (λk F U=>F.get 0=va/\F.get 3=.ref 0 0/\F.get 7=.int .i64 (i:Int)/\F.get 8=.int .i64 (k:Int)/\U[0]?=some (O.cells 70 [rw_,lv,nw1] true)/\GX U rw_ rs/\uE 105 U nw1 (R++[[.sl bu 0 (dV rs).length none]])/\Us U R ((List.range i).map λi=>(List.range (dV rs).length).map (nd rs i)) bu/\bH rV 4 U (.sl bu 0 (dV rs).length none) ((List.range k).map (nd rs i)++List.replicate ((dV rs).length-k) false)/\bu<U.length) (dV rs).length ?_ ?_ (dV rs).length 0 _ _ (by omega) (fZ (by simp +decide only[GS,p0,p3,p7,aj]) ⟨h1,hR1,hw1,hm1,by simpa using ow1,hlen1⟩)
  ·clear h1 hR1 hw1 hm1 ow1 p0 p3 p7
   rintro k F U hk2 ⟨g0,g3,g7,g8,h0,hR,hw,hm,ow,hlen⟩ next2
   obtain⟨y,hy⟩:∃y,(dV rs)[k]?=some y:=⟨_,BY hk2⟩
   obtain⟨gx,ex⟩:=GM h hL.Qg.is hx
   obtain⟨gy,ey⟩:=GM h hL.Qg.is hy
   have kn:=cH λK=>QO (Z:=U) (K:=K) (y:=y) h hl rg (ia.ls U 46) hf (af hx)
   obtain⟨b,ix,ld⟩:=SQ h hw hR1len
   rw[hRi]at ix ld
   have hln:((List.range k).map (nd rs i)++List.replicate ((dV rs).length-k) false).length=(dV rs).length:=by rw[an,az,l7,List.length_replicate];omega
   obtain⟨b2,ix2,hb2,τ2,st2,ow2,JC,hl2⟩:=Et (i:=k) (u:=.bool (decide (y∈iK rs x))) (y:=decide (y∈iK rs x)) h.lO rfl h.uC rfl ow (by rw[hln];exact hk2) rfl rfl
   have hb2e:b2=bu:=by cases hb2;rfl
   subst hb2e
   rw[show k*rV.n=k from nf k]at ix2 st2
   have hlt2:=eC hk2
   have hadd2:=bY k (by omega)
   have lg1:loadAt E U 23 (.ref 0 1)=some lv:=by unfold Ax.loadAt;simp only[hl.fO,h0];rfl
   have lg2:loadAt E U 68 (.ref 0 2)=some nw1:=by unfold Ax.loadAt;simp only[h.uH,h0];rfl
   have lx:loadAt E U 51 (.dH gx [.bool x.1,.str x.2])=some (.agg [.bool x.1,.str x.2]):=by unfold Ax.loadAt;simp only[hl.cL];rfl
   have ly:loadAt E U 51 (.dH gy [.bool y.1,.str y.2])=some (.agg [.bool y.1,.str y.2]):=by unfold Ax.loadAt;simp only[hl.cL];rfl
   rw[aF]
   simp only[KP,↓reduceIte,reduceEqDiff,reduceLT,reduceCtorEq,h.fO,h.uH,rg.nQ,g0,g3,g7,g8,lg1,lg2,lx,ly,ll,hlt2,ex,ey,kn,ix,ld,ix2,st2,hadd2,aK d19,a_]
   obtain⟨cs4,ex4,hb4⟩:∃cs ex,U[b2]?=some (.cells 4 cs ex):=by
    rcases ow with⟨e,-⟩ | ⟨b,q,ex,e,hb,-⟩
    ·cases e
    ·have e2:some b2=some b:=au aZ e
     rw[cv e2]
     exact⟨_,_,hb⟩
   have hne:∀(c:Nat) (o:O),U[c]?=some o->(∀cs ex,o≠.cells 4 cs ex)->aZ (.sl b2 0 (dV rs).length none)≠some c:=λc o e ho e2=>by
    cases e2
    rw[hb4]at e
    cases e
    exact ho _ _ rfl
   rw[<- PE hx hy,R5 hk2]at ow2
   refine next2 _ _ (fZ (by simp +decide only[GS,g0,g3,g7,aj]) ⟨JC _ _ h0 (hne _ _ h0 (by intro cs ex e;cases e)),hR.keep λc cs ex t ht e=>JC _ _ e (hne _ _ e (by intro cs' ex' e';cases e';rcases ht with ht | ht <;> cases ht)),hw.keep λc o hc e=>JC _ _ e (λe2=>?_),Gh hm (ae _) λc cs ex hc e=>JC _ _ e (λe2=>by cases e2;exact absurd hc (bg _)),ow2,by rw[hl2];exact hlen⟩)
   cases e2
   exact sP hw hb4 (by intro cs' ex' e';cases e') hc
  ·clear h1 hR1 hw1 hm1 ow1 p0 p3 p7
   rintro F U ⟨g0,g3,g7,g8,h0,hR,hw,hm,ow,hlen⟩
   rw[ju,List.replicate_zero,fh]at ow
   have hlt2:=eG (bg (dV rs).length)
   have lg1:loadAt E U 23 (.ref 0 1)=some lv:=by unfold Ax.loadAt;simp only[hl.fO,h0];rfl
   rw[aF]
   simp only[KP,↓reduceIte,reduceEqDiff,reduceLT,reduceCtorEq,h.fO,rg.nQ,g3,g7,g8,lg1,ll,hlt2,hadd]
   refine next _ _ (gE (by simp +decide only[GS,g0,g3,aj]) ⟨nw1,_,bu+1,h0,hR,hw,?_,hlen⟩)
   rw[List.range_succ,gp]
   exact dS.append (Gh hm (Nat.le_succ _) λc cs ex _ e=>e) (.one ⟨_,rfl,ow,λb hb=>by cases hb;exact jy _⟩)
 ·rintro F U ⟨g0,g3,g7,nw,R,bd,h0,hR,hw,hm,hbd⟩
  have hlt:=eG (bg (dV rs).length)
  have lg:loadAt E U 23 (.ref 0 1)=some lv:=by unfold Ax.loadAt;simp only[hl.fO,h0];rfl
  rw[aF]
  simp only[KP,↓reduceIte,reduceEqDiff,reduceLT,reduceCtorEq,h.fO,rg.nQ,g3,g7,lg,ll,hlt]
  exact hk _ _ nw R bd (by simp +decide only[GS,g0]) (by simp +decide only[GS,g3]) h0 hR hw hm
end
end
section
section
variable {E:Env}{Z:Sg}{K:V->Sg->Prop}
theorem zL {α:Type}{f:V->Option V}{P Q:List V->α->Prop}(hf:∀r x,P r x->∃r',aU f r=some r'/\Q r' x):∀{R:List (List V)}{l:List α},dS P R l->∃R',aU f R.flatten=some R'.flatten/\dS Q R' l
 |_,_,.nil=>⟨[],rfl,.nil⟩
 |_,_,.cons p t=>by
  obtain⟨r',h1,h2⟩:=hf _ _ p
  obtain⟨R',h3,h4⟩:=zL hf t
  exact⟨r'::R',by rw[da,da];exact C3 h1 h3,.cons h2 h4⟩
theorem xP {α:Type}{L:Lay α}{t n:Nat}{ei:Ty}{U:Sg}{w:V}{R R':List (List V)}{l:List α}(ht:E.ty t=some ei)(hn:ei.size=L.n)(hw:uE t U w R)(hR:∀r∈R,r.length=L.n)(hl:R.length=l.length)
  (hm:aU (λv=>match bI U E.ty false n v with
   |some v=>if bU false v then some v else Ax.no "snap: borrowed"
   |none=>none) R.flatten=some R'.flatten)(ha:dS L.P R' l):∃v',bI U E.ty false (n+1) w=some v'/\bU false v'=true/\iO L v' l:=by
 rcases hw with⟨rfl,rfl⟩ | ⟨b,ex,rfl,hb⟩
 ·have hl0:l=[]:=List.eq_nil_of_length_eq_zero hl.symm
  subst hl0
  exact⟨.aB,rfl,rfl,.inl ⟨rfl,rfl⟩⟩
 ·have hfl:R.flatten.length=R.length*L.n:=lS R hR
  have htk:(R.flatten.drop 0).take (R.length*ei.size)=R.flatten:=by rw[eu,ak (by rw[hn,hfl];exact ae _)]
  refine⟨.bT false R' (ex&&decide (0<ei.size)&&(0+R.length*ei.size==R.flatten.length)),?_,rfl,.inr ⟨R',_,rfl,ha⟩⟩
  rw[bI]
  simp only[hb,ht]
  rw[b8 (by rw[hn,hfl];omega)]
  have m2:aU (λv=>match bI U E.ty false n v with
   |some v=>if bU false v then some v else Ax.no "snap: borrowed"
   |none=>none) ((R.flatten.drop 0).take (R.length*ei.size))=some R'.flatten:=by rw[htk];exact hm
  refine Eq.trans (au (λo=>match o with
   |some l=>some (V.bT false (Ax.rows ei.size R.length l) (ex&&decide (0<ei.size)&&(0+R.length*ei.size==R.flatten.length)))
   |none=>none) m2) ?_
  show some (V.bT false (Ax.rows ei.size R.length R'.flatten) _)=_
  have hl':R.length=R'.length:=by rw[hl,ha.len]
  rw[hl',hn,show Ax.rows L.n R'.length R'.flatten=R' from kK (sz:=L.n) R' (Lay.lens (L:=L) ha)]
theorem Py {α:Type}{L:Lay α}{t:Nat}{U:Sg}{w:V}{l:List α} (ow:bH L t U w l):∃R,uE t U w R/\dS L.P R l:=by
 rcases ow with⟨rfl,rfl⟩ | ⟨b,rs,ex,rfl,hb,ha⟩
 ·exact⟨[],.inl ⟨rfl,rfl⟩,.nil⟩
 ·exact⟨rs,.inr ⟨b,ex,by rw[ha.len],hb⟩,ha⟩
theorem PM {U:Sg}{n:Nat}{r:List V}(h1:∀c∈r,Ax.bF c=true)(h2:∀c∈r,bU false c=true):aU (λv=>match bI U E.ty false (n+1) v with
   |some v=>if bU false v then some v else Ax.no "snap: borrowed"
   |none=>none) r=some r:=iS λc hc=>by
 rw[gW (h1 c hc)]
 simp only[h2 c hc,b9]
theorem Ey {α:Type}{L:Lay α}{t n:Nat}{ei:Ty}{U:Sg}{w:V}{l:List α}(ht:E.ty t=some ei)(hn:ei.size=L.n)(hF:∀r x,L.P r x->∀c∈r,bU false c=true) (ow:bH L t U w l):∃v',bI U E.ty false (n+2) w=some v'/\bU false v'=true/\iO L v' l:=by
 obtain⟨R,hw,ha⟩:=Py ow
 obtain⟨R',hm,ha'⟩:=zL (f:=(λv=>match bI U E.ty false (n+1) v with
   |some v=>if bU false v then some v else Ax.no "snap: borrowed"
   |none=>none)) (Q:=L.P) (λr x p=>⟨r,PM (L.im r x p) (hF r x p),p⟩) ha
 exact xP ht hn hw (Lay.lens ha) ha.len hm ha'
theorem NO:∀r x,rV.P r x->∀c∈r,bU false c=true:=λr x hr c hc=>by
 rw[show r=[.bool x] from hr]at hc
 rw[dc.1 hc]
 rfl
theorem O0 (h:bJ E) {U:Sg}{w:V}{rs:List aD}(hR:GX U w rs):∃v',bI U E.ty false 11 w=some v'/\bU false v'=true/\iO jY v' rs:=by
 obtain⟨R,hw,ha⟩:=hR
 obtain⟨R',hm,ha'⟩:=zL (f:=(λv=>match bI U E.ty false 10 v with
   |some v=>if bU false v then some v else Ax.no "snap: borrowed"
   |none=>none)) (Q:=jY.P) (λr x p=>by
  obtain⟨a,b,c,u,rfl,i1,i2,i3,ow⟩:=p
  obtain⟨d,e1,t1,i4⟩:=Ey (n:=8) h.cN rfl Ct ow
  refine⟨[.str x.name,a,b,c,d],?_,a,b,c,d,rfl,i1,i2,i3,i4⟩
  have q:∀c:V,Ax.bF c=true->bI U E.ty false 10 c=some c:=λc h1=>gW h1
  have t0:bU false (V.str x.name)=true:=rfl
  simp only[aU,q (.str x.name) rfl,q a i1.is.bF,q b i2.is.bF,q c i3.is.bF,e1,t0,i1.tag,i2.tag,i3.tag,t1,b9]) ha
 exact xP h.bC rfl hw (HA ha) ha.len hm ha'
theorem O2 (h:bJ E) {U:Sg}{w:V}{R:List (List V)}{m:List (List Bool)}{bd:Nat}(hw:uE 105 U w R)(hm:Us U R m bd):∃v',bI U E.ty false 11 w=some v'/\bU false v'=true/\iO rE v' m:=by
 obtain⟨R',hm',ha'⟩:=zL (f:=(λv=>match bI U E.ty false 10 v with
   |some v=>if bU false v then some v else Ax.no "snap: borrowed"
   |none=>none)) (Q:=rE.P) (λr x p=>by
  obtain⟨u,rfl,ow,-⟩:=p
  obtain⟨d,e1,t1,i4⟩:=Ey (n:=8) h.uC rfl NO ow
  refine⟨[d],?_,d,rfl,i4.is⟩
  simp only[aU,e1,t1,b9]) hm
 exact xP (L:=rE) h.lO rfl hw (J0 hm) hm.len hm' ha'
def RE (rs:List aD) (v:V):Prop:=∃rv lv nv,v=.dH false [rv,lv,nv]/\iO jY rv rs/\Cc lv (dV rs)/\iO rE nv (HV (dV rs).length (nd rs))
theorem Wu (h:bJ E)(hl:Lb.cK E) (rg:Eh E) {a:V}{rs:List aD}(ha:LS bS 46 Z a rs)(hf:Fits rs):aC E 14 [a] Z λv σ'=>σ'=Z/\RE rs v:=by
 obtain⟨a',ea,ia⟩:=dQ h ha
 rw[aH rg.hs14 rg.OU rg.fn14 rg.md14 (args':=[a']) (by simp only[aU,ea]),aX (by kernel_rfl)]
 have k1:=λ{U nw} h0 hno F g0 g3 st Q hk=>Pf (U:=U) (nw:=nw) h hl rg ia hf h0 hno F g0 g3 (st:=st) (Q:=Q) hk
 have k2:=λ{U rw_ lv} h0 hR hL F g0 g3 st Q hk=>R7 (U:=U) (rw_:=rw_) (lv:=lv) h hl rg ia hf h0 hR hL F g0 g3 (st:=st) (Q:=Q) hk
 rw[show (aA Tryz.f14).code=.seq (cutAt [0] (aA Tryz.f14).code) (.seq (cutAt [1,0] (aA Tryz.f14).code) (.seq (cutAt [1,1,0] (aA Tryz.f14).code) (.seq (cutAt [1,1,1,0] (aA Tryz.f14).code) (cutAt [1,1,1,1] (aA Tryz.f14).code)))) from rfl]
 generalize cutAt [1,1,0] (aA Tryz.f14).code=B1 at k1 ⊢
 generalize cutAt [1,1,1,0] (aA Tryz.f14).code=B2 at k2 ⊢
 simp only[aA,Tryz.f14,KP,↓reduceIte,reduceLT,reduceAdd,h.qA,h.fO,h.uH,cutAt,rg.nQ,Ax.fill]
 refine k1 rfl rfl _ ?_ ?_ _ _ (λF1 τ1 w lv p0 p3 h1 hR hL=>?_)
 ·simp +decide only[GS]
 ·simp +decide only[GS]
 rw[PU]
 simp only[KP]
 refine k2 h1 hR hL F1 p0 p3 _ _ (λF2 τ2 nw R bd q0 q3 h2 hR2 hw hm=>?_)
 obtain⟨rv,e1,t1,i1⟩:=O0 h hR2
 obtain⟨nv,e3,t3,i3⟩:=O2 h hw hm
 have e2:bI τ2 E.ty false 11 lv=some lv:=gW hL.Qg.is.bF
 have t2:bU false lv=true:=hL.Qg.tag
 have es:bW τ2 E.ty false (.ref 0 0)=some (.dH false [rv,lv,nv]):=by
  show aQ.one τ2 E.ty false (.ref 0 0)=_
  unfold aQ.one
  rw[show eE=11+1 from rfl,bI]
  simp only[h2,eu,aU,e1,e2,e3,t1,t2,t3,b9]
  rfl
 rw[PU]
 simp only[KP,↓reduceIte,reduceLT,q3,es]
 exact⟨rv,lv,nv,rfl,i1,hL,i3⟩
end
end
section
structure Mp (E:Env):Prop where
 hs27:E.hspec 27=none
 ON:E.spec 27=some xN
 hs49:E.hspec 49=none
 sp49:E.spec 49=none
 fn49:E.fn 49=some (aA Tryz.f49)
 md49:E.mode 49=.fD
 abE:aI E (cutAt [1,0,2,0] (aA Tryz.f49).code)=true
 abD:aI E (cutAt [1,0,2,1,1,1,1,0] (aA Tryz.f49).code)=true
 hs51:E.hspec 51=none
 sp51:E.spec 51=none
 fn51:E.fn 51=some (aA Tryz.f51)
 md51:E.mode 51=.fD
 abB:aI E (cutAt [1,0] (aA Tryz.f51).code)=true
section
variable {E:Env}{Z:Sg}{K:V->Sg->Prop}
theorem b_Eq (h:bJ E)(hl:Lb.cK E) (rg:Eh E) (kn:Mp E) {a b:V}{l m:List aD}(ha:LS bS 46 Z a l)(hb:LS bS 46 Z b m)(hs:∀x∈l,Small x)(hlen:l.length<=1000):aC E 27 [a,b] Z K=K (.bool (kN l m)) Z:=by
 obtain⟨a',ea,ia⟩:=dQ h ha
 obtain⟨b',eb,ib⟩:=dQ h hb
 exact qC (args':=[a',b']) kn.hs27 kn.ON (by simp only[aU,ea,eb]) (MG ia ib hs hlen) rfl
theorem Rw {α β:Type}{P Q:β->α->Prop}(hpq:∀r x,P r x->Q r x):∀{rs:List β}{l:List α},dS P rs l->dS Q rs l:=by
 intro rs
 induction rs with
 |nil=>intro l h;cases h;exact .nil
 |cons r rs ih=>
  intro l h
  cases h with
  |cons p q=>exact .cons (hpq _ _ p) (ih q)
theorem Gx {α:Type}{L M:Lay α}(hpq:∀r x,L.P r x->M.P r x) {v:V}{l:List α}(h:IS L v l):IS M v l:=h.imp id λ⟨g,rs,f,e,a⟩=>⟨g,rs,f,e,Rw hpq a⟩
theorem Du {v:V}{rs:List aD}(hv:iO jY v rs):IS bS v rs:=Gx (L:=jY) (M:=bS) (λr x ⟨a,b,c,d,e,i1,i2,i3,i4⟩=>⟨a,b,c,d,e,i1.is,i2.is,i3.is,Gx (L:=fE) (M:=eK) (λr x ⟨a,l,e,j1,j2⟩=>⟨a,l,e,j1.is,j2.is⟩) i4.is⟩) hv.is
theorem RE.SX {rs:List aD}{v:V}(hg:RE rs v):Ax.bF v=true:=by
 obtain⟨rv,lv,nv,rfl,-⟩:=hg
 rfl
theorem Iy {l:List aJ}{x:aJ}(hx:x∈l):∃k,bN (λy=>decide (y=x)) l=some k/\l[k]?=some x:=by
 obtain⟨k,hk⟩:=iY (p:=λy:aJ=>decide (y=x)) hx (AT rfl)
 obtain⟨x',h1,h2⟩:=fK hk
 rw[dx h2]at h1
 exact⟨k,hk,h1⟩
theorem Iw {l:List aJ}{x:aJ}(hx:x ∉ l):bN (λy=>decide (y=x)) l=none:=fR (p:=λy:aJ=>decide (y=x)) λy hy=>AI λe:y=x=>hx (by rw[<- e];exact hy)
theorem PN {rs:List aD}{f:bD}:decide (0<=idx (c_ rs f))=(fW rs f).isSome:=by
 have e:(fW rs f).isSome=(c_ rs f).isSome:=by
  rw[c_,cG,fW,dn,List.find?_isSome,ek]
 rw[e]
 cases c_ rs f with
 |none=>rfl
 |some k=>exact AT (by show (0:Int)<=(k:Int);omega)
theorem TL (h:bJ E)(hl:Lb.cK E) (rg:Eh E) (kn:Mp E) {g:V}{rs:List aD}(hg:RE rs g)(hf:Fits rs) (x:aJ):aC E 49 [g,.agg [.bool x.1,.str x.2]] Z K=K (.int .i64 (kindOf rs x)) Z:=by
 refine aC.of ?_
 have e1:=cU (Z:=Z) (ty:=E.ty) hg.SX (cF hg.SX)
 have ex:=rC (E:=E) Z x
 obtain⟨rv,lv,nv,rfl,hR,hL,hN⟩:=hg
 have hal:=nW hf
 have hlen:=hf.len
 have d1:=kn.abE
 simp only[aA,Tryz.f49,cutAt,ag]at d1
 have d5:=kn.abD
 simp only[aA,Tryz.f49,cutAt,ag]at d5
 rw[aH kn.hs49 kn.sp49 kn.fn49 kn.md49 (args':=[.dH false [rv,lv,nv],.agg [.bool x.1,.str x.2]]) (by simp only[aU,e1,ex]),aX (by kernel_rfl)]
 have kf:=λ(U:Sg)=>cH λK=>Mj (Z:=U) (K:=K) (s:=x) h hl (hL.Qg.is.ls U 51) (by omega)
 obtain⟨bx,sx⟩:=x
 have km:=λ(U:Sg)=>cH λK=>Ca (Z:=U) (K:=K) (s:=sx) h ((Du hR).ls U 46) (λx hx=>by have:=(hf.small x hx).outs;omega) (by omega)
 have hmk:=PN (rs:=rs) (f:=sx)
 dsimp only at kf ⊢
 by_cases hxa:((bx,sx):aJ)∈dV rs
 ·obtain⟨k,hk,hkx⟩:=Iy hxa
  simp only[hk,dI]at kf
  have hneg:decide ((k:Int)<0)=false:=AI (by omega)
  cases bx with
  |true=>
   simp only[aA,Tryz.f49,KP,Ax.loadAt,↓reduceIte,reduceEqDiff,reduceLT,reduceAdd,reduceCtorEq,h.uC,h.fO,h.cL,rg.nQ,kf,hneg,bW,aQ,aK d1,a_]
   rw[show kindOf rs (true,sx)=1 by simp[kindOf,hxa]]
   exact rfl
  |false=>
   cases hm:(fW rs sx).isSome with
   |true=>
    rw[hm]at hmk
    simp only[aA,Tryz.f49,KP,Ax.loadAt,↓reduceIte,reduceEqDiff,reduceLT,reduceAdd,reduceCtorEq,h.uC,h.cM,h.qA,h.fO,h.cL,rg.nQ,kf,km,hmk,hneg,bW,aQ,aK d1,aK d5,a_]
    rw[show kindOf rs (false,sx)=2 by simp[kindOf,hxa,hm]]
    exact rfl
   |false=>
    rw[hm]at hmk
    simp only[aA,Tryz.f49,KP,Ax.loadAt,↓reduceIte,reduceEqDiff,reduceLT,reduceAdd,reduceCtorEq,h.uC,h.cM,h.qA,h.fO,h.cL,rg.nQ,kf,km,hmk,hneg,bW,aQ,aK d1,aK d5,a_]
    rw[show kindOf rs (false,sx)=3 by simp[kindOf,hxa,hm]]
    exact rfl
 ·simp only[Iw hxa]at kf
  have hneg:decide (idx (none:Option Nat)<0)=true:=rfl
  simp only[aA,Tryz.f49,KP,Ax.loadAt,↓reduceIte,reduceEqDiff,reduceLT,reduceAdd,reduceCtorEq,h.fO,h.cL,rg.nQ,kf,hneg,bW,aQ,aK d1,a_]
  rw[show kindOf rs (bx,sx)=0 by simp[kindOf,hxa]]
  exact rfl
end
end
section
section
variable {E:Env}{Z:Sg}{K:V->Sg->Prop}
theorem P_:∀r x,pP.P r x->∀c∈r,bU false c=true:=λr x hr c hc=>by
 rw[show r=row x from hr]at hc
 simp only[row,By,br,dz]at hc
 rcases hc with rfl | rfl <;> rfl
theorem Cw (hl:Lb.cK E) {U:Sg}{r:V}{l:List aJ} (ow:bH pP 51 U r l):∃v',bW U E.ty false r=some v'/\Cc v' l:=by
 obtain⟨v',h1,h2⟩:=oV hl.cL rfl P_ ow
 exact⟨v',h1,h2.imp id λ⟨rs,f,e,a⟩=>⟨f,by rw[e,sJ a]⟩⟩
def EO (rs:List aD) (back:Bool) (x:aJ):List aJ:=(dV rs).filter λy=>if back=true then decide (x∈iK rs y) else decide (y∈iK rs x)
theorem Mh (h:bJ E)(hl:Lb.cK E) (rg:Eh E) (kn:Mp E) {g:V}{rs:List aD}(hg:RE rs g)(hf:Fits rs) (x:aJ) (back:Bool):aC E 51 [g,.agg [.bool x.1,.str x.2],.bool back] Z λv σ'=>σ'=Z/\Cc v (if x∈dV rs then EO rs back x else []):=by
 have e1:=cU (Z:=Z) (ty:=E.ty) hg.SX (cF hg.SX)
 have ex:=rC (E:=E) Z x
 have eb:aQ Z E.ty true (.bool back)=some (.bool back):=rfl
 obtain⟨rv,lv,nv,rfl,hR,hL,hN⟩:=hg
 have hal:=nW hf
 have d1:=kn.abB
 simp only[aA,Tryz.f51,cutAt,ag]at d1
 rw[aH kn.hs51 kn.sp51 kn.fn51 kn.md51 (args':=[.dH false [rv,lv,nv],.agg [.bool x.1,.str x.2],.bool back]) (by simp only[aU,e1,ex,eb]),aX (by kernel_rfl)]
 have ll:=uW h hL.Qg.is
 have lg1:∀U,loadAt E U 23 (.dH false [lv,nv])=some lv:=λU=>by unfold Ax.loadAt;simp only[hl.fO];rfl
 have lg2:∀U,loadAt E U 68 (.dH false [nv])=some nv:=λU=>by unfold Ax.loadAt;simp only[h.uH];rfl
 have lx:∀U gi (x:aJ),loadAt E U 51 (.dH gi [.bool x.1,.str x.2])=some (.agg [.bool x.1,.str x.2]):=λU gi x=>by unfold Ax.loadAt;simp only[hl.cL];rfl
 have lm:∀U g u,loadAt E U 105 (.dH g [u])=some u:=λU g u=>by unfold Ax.loadAt;simp only[h.lO];rfl
 have lb:∀U g u,loadAt E U 4 (.dH g [u])=some u:=λU g u=>by unfold Ax.loadAt;simp only[h.uC];rfl
 have kf:=λ(U:Sg)=>cH λK=>Mj (Z:=U) (K:=K) (s:=x) h hl (hL.Qg.is.ls U 51) (by omega)
 by_cases hxa:x∈dV rs
 ·rw[b8 hxa]
  obtain⟨k,hk,hkx⟩:=Iy hxa
  simp only[hk,dI]at kf
  have hkl:=(AS.1 hkx).1
  simp only[aA,Tryz.f51,KP,Ax.loadAt,↓reduceIte,reduceEqDiff,reduceLT,reduceAdd,reduceCtorEq,h.fO,h.cL,rg.nQ,kf,aK d1,a_]
  refine aV (λi F U=>F.get 0=.dH false [rv,lv,nv]/\F.get 2=.bool back/\F.get 7=.int .i64 (k:Int)/\F.get 9=.int .i64 (i:Int)/\∃w l,F.get 8=w/\bH pP 51 U w l/\l=((dV rs).take i).filter λy=>if back=true then decide (x∈iK rs y) else decide (y∈iK rs x)) (dV rs).length ?_ ?_ (dV rs).length 0 _ _ (by omega) (fZ (by simp +decide only[GS,aj]) ⟨.aB,[],(by simp +decide only[GS]),.inl ⟨rfl,rfl⟩,by simp⟩)
  ·rintro i F U hi ⟨g0,g2,g7,g9,w,l,g8,ow,he⟩ next
   obtain⟨y,hy⟩:∃y,(dV rs)[i]?=some y:=⟨_,BY hi⟩
   obtain⟨gi,ei⟩:=GM h hL.Qg.is hy
   have hlt:=eC hi
   have hadd:=bY i (by omega)
   have hll:l.length<=2000:=by rw[he];exact gh (List.length_filter_le ..) (by rw[bl];omega)
   obtain⟨w',τ5,ha5,ow5,sp5,-⟩:=T1 (x:=y) (ex:=true) hl ow (by omega)
   have htk:∀P:aJ->Bool,((dV rs).take (i+1)).filter P=((dV rs).take i).filter P++if P y=true then [y] else []:=λP=>by
    rw[dh,hy,List.filter_append]
    congr 1
    show List.filter P [y]=_
    cases hP:P y <;> simp[hP]
   rw[aF]
   cases back with
   |false=>
    obtain⟨gm,vr,gb,em,eb⟩:=Az h hN.is hkl hi
    rw[PE hkx hy]at eb
    by_cases hb:y∈iK rs x
    ·rw[AT hb]at eb
     simp only[KP,↓reduceIte,reduceEqDiff,reduceLT,reduceLeDiff,reduceMul,reduceCtorEq,h.fO,h.cL,h.uH,rg.nQ,g0,g2,g7,g8,g9,ll,hlt,lg1,lg2,em,eb,lm,lb,ei,lx,Iz,ha5,hadd]
     refine next _ _ (fZ (by simp +decide only[GS,g0,g2,g7,aj]) ⟨w',l++[y],(by simp +decide only[GS]),ow5,?_⟩)
     rw[htk,he,b8 (by simp[hb])]
    ·rw[AI hb]at eb
     simp only[KP,↓reduceIte,reduceEqDiff,reduceLT,reduceCtorEq,h.fO,h.uH,rg.nQ,g0,g2,g7,g9,ll,hlt,lg1,lg2,em,eb,lm,lb,hadd]
     refine next _ _ (fZ (by simp +decide only[GS,g0,g2,g7,aj]) ⟨w,l,(by simp +decide only[GS,g8]),ow,?_⟩)
     rw[htk,he,ay (by simp[hb]),fh]
   |true=>
    obtain⟨gm,vr,gb,em,eb⟩:=Az h hN.is hi hkl
    rw[PE hy hkx]at eb
    by_cases hb:x∈iK rs y
    ·rw[AT hb]at eb
     simp only[KP,↓reduceIte,reduceEqDiff,reduceLT,reduceLeDiff,reduceMul,reduceCtorEq,h.fO,h.cL,h.uH,rg.nQ,g0,g2,g7,g8,g9,ll,hlt,lg1,lg2,em,eb,lm,lb,ei,lx,Iz,ha5,hadd]
     refine next _ _ (fZ (by simp +decide only[GS,g0,g2,g7,aj]) ⟨w',l++[y],(by simp +decide only[GS]),ow5,?_⟩)
     rw[htk,he,b8 (by simp[hb])]
    ·rw[AI hb]at eb
     simp only[KP,↓reduceIte,reduceEqDiff,reduceLT,reduceCtorEq,h.fO,h.uH,rg.nQ,g0,g2,g7,g9,ll,hlt,lg1,lg2,em,eb,lm,lb,hadd]
     refine next _ _ (fZ (by simp +decide only[GS,g0,g2,g7,aj]) ⟨w,l,(by simp +decide only[GS,g8]),ow,?_⟩)
     rw[htk,he,ay (by simp[hb]),fh]
  ·rintro F U ⟨g0,g2,g7,g9,w,l,g8,ow,he⟩
   rw[ak (ae _)]at he
   have hlt:=eG (bg (dV rs).length)
   obtain⟨v',hv',hvl⟩:=Cw hl ow
   rw[aF]
   simp only[KP,Ax.loadAt,↓reduceIte,reduceEqDiff,reduceLT,reduceCtorEq,h.fO,rg.nQ,g0,g8,g9,ll,hlt,hv']
   rw[EO,<- he]
   exact hvl
 ·rw[ay hxa]
  simp only[Iw hxa]at kf
  have hge:decide (0<=idx (none:Option Nat))=false:=rfl
  simp only[aA,Tryz.f51,KP,Ax.loadAt,↓reduceIte,reduceEqDiff,reduceLT,reduceAdd,reduceCtorEq,h.fO,h.cL,rg.nQ,kf,aK d1,a_]
  rw[aF]
  by_cases h0:(dV rs).length=0
  ·have hlt:decide ((0:Int)<((dV rs).length:Int))=false:=AI (by omega)
   simp only[KP,Ax.loadAt,↓reduceIte,reduceEqDiff,reduceLT,reduceCtorEq,h.fO,rg.nQ,ll,hlt,bW,aQ]
   exact .inl ⟨rfl,rfl⟩
  ·have hlt:decide ((0:Int)<((dV rs).length:Int))=true:=AT (by omega)
   simp only[KP,Ax.loadAt,↓reduceIte,reduceEqDiff,reduceLT,reduceCtorEq,h.fO,rg.nQ,ll,hlt,hge,bW,aQ]
   exact .inl ⟨rfl,rfl⟩
end
end
section
section
variable {E:Env}{Z:Sg}{K:V->Sg->Prop}
structure Sd (rs:List aD) (l A now:List aJ):Prop where
 mem:∀x,x∈A ↔ x∈l/\x∈dV rs
 nw:∀x,x∈now ↔ x∈A
 len:now.length<=A.length
theorem Sd.old {rs:List aD}{ls A now:List aJ}{j:Nat}{x:aJ}(h:Sd rs (ls.take j) A now)(hx:ls[j]?=some x)(hA:x∈dV rs->x∈A):Sd rs (ls.take (j+1)) A now:=⟨λy=>by
 rw[h.mem,EZ hx]
 constructor
 ·exact λe=>⟨.inl e.1,e.2⟩
 ·rintro⟨e | rfl,e2⟩
  ·exact⟨e,e2⟩
  ·exact (h.mem _).1 (hA e2),h.nw,h.len⟩
theorem Sd.fresh {rs:List aD}{ls A now:List aJ}{j:Nat}{x:aJ}(h:Sd rs (ls.take j) A now)(hx:ls[j]?=some x)(ha:x∈dV rs):Sd rs (ls.take (j+1)) (A++[x]) (now++[x]):=⟨λy=>by
 rw[bw,h.mem,EZ hx,dc]
 constructor
 ·rintro (e | rfl)
  ·exact⟨.inl e.1,e.2⟩
  ·exact⟨.inr rfl,ha⟩
 ·rintro⟨e | rfl,e2⟩
  ·exact .inl ⟨e,e2⟩
  ·exact .inr rfl,λy=>by rw[bw,bw,h.nw],by have:=h.len;rw[an,an];omega⟩
end
end
section
section
variable {E:Env}{Z:Sg}{K:V->Sg->Prop}
theorem Ji.bF {g:V}{rs:List aD}(hg:Ji E rs g):Ax.bF g=true:=by
 obtain⟨es0,es1,get,A,L3,L4,rfl,-⟩:=hg
 rfl
theorem Cc.bW {v:V}{l:List aJ}(hv:Cc v l) (U:Sg):bW U E.ty false v=some v:=by
 rcases hv with⟨rfl,-⟩ | ⟨full,rfl⟩ <;> rfl
theorem CU {rs:List aD} (x y:aJ)(hy:y∈iK rs x):y∈dV rs:=(B0 (jI.1 hy)).2
end
end
section
section
variable {E:Env}{Z:Sg}{K:V->Sg->Prop}
theorem wD {rs:List aD} (x y:aJ):x∈iK rs y ↔ y∈wV rs x:=by rw[jI,EY]
end
end
section
section
variable {E:Env}{Z:Sg}{K:V->Sg->Prop}
theorem JZ {rs:List aD} (x:aJ):(if x∈dV rs then EO rs false x else [])=iK rs x:=by
 by_cases hx:x∈dV rs
 ·rw[b8 hx]
  refine xJ (List.Pairwise.sublist List.filter_sublist (Cb rs)) (CV rs x) λy=>?_
  simp only[EO,lu,ai,aq,IT]
  exact⟨λh=>h.2,λh=>⟨CU x y h,h⟩⟩
 ·rw[ay hx]
  cases hn:iK rs x with
  |nil=>rfl
  |cons y r=>exact absurd (B0 (jI.1 (by rw[hn];exact IN ..))).1 hx
theorem JX {rs:List aD} (x:aJ):(if x∈dV rs then EO rs true x else [])=wV rs x:=by
 by_cases hx:x∈dV rs
 ·rw[b8 hx]
  refine xJ (List.Pairwise.sublist List.filter_sublist (Cb rs)) (Ck rs x) λy=>?_
  simp only[EO,lu,b9,IT]
  rw[wD]
  exact⟨λh=>h.2,λh=>⟨(B0 (jI.1 ((wD x y).2 h))).1,h⟩⟩
 ·rw[ay hx]
  cases hn:wV rs x with
  |nil=>rfl
  |cons y r=>exact absurd (CU y x ((wD x y).2 (by rw[hn];exact IN ..))) hx
theorem tE {α:Type}{p:α->Bool}:∀{l:List α}{k:Nat},bN p l=some k->l.find? p=l[k]?
 | [],_,h=>by cases h
 |x::l,k,h=>by
  rw[bN]at h
  by_cases hx:p x=true
  ·rw[b8 hx]at h
   cases h
   rw[jv,hx]
   rfl
  ·rw[ay hx]at h
   obtain⟨j,hj,rfl⟩:=ou.1 h
   rw[jv,Bool.eq_false_iff.2 hx]
   exact tE hj
theorem yG {α:Type}{p:α->Bool}{l:List α}(h:bN p l=none):l.find? p=none:=by
 rw[jx]
 intro x hx hp
 obtain⟨k,hk⟩:=iY hx hp
 rw[hk]at h;cases h
end
end
section
structure RD (E:Env):Prop where
 hs9:E.hspec 9=none
 Xb:E.spec 9=none
 fn9:E.fn 9=some (aA Tryz.f9)
 md9:E.mode 9=.fD
 abq:aI E (cutAt [1,1,1,1,1,1,1,0,0] (aA Tryz.f9).code)=true
 z9_12:eL E (opsOf (cutAt [1,1,1,1,1,1,1,1,0,0] (aA Tryz.f9).code))=.lit
 p9_12:cB E .lit (opsOf (cutAt [1,1,1,1,1,1,1,1,0,0] (aA Tryz.f9).code))=some [⟨4,5,true,false⟩]
 abp:aI E (cutAt [1,1,1,1,1,1,1,1,0,1,2,2,1,1,0,2,1,0,0] (aA Tryz.f9).code)=true
 KK:eL E (opsOf (cutAt [1,1,1,1,1,1,1,1,0,1,2,2,1,1,0,2,1,1,1,1,1,1,0] (aA Tryz.f9).code))=.no
 Lq:cB E .no (opsOf (cutAt [1,1,1,1,1,1,1,1,0,1,2,2,1,1,0,2,1,1,1,1,1,1,0] (aA Tryz.f9).code))=some [⟨26,31,true,false⟩]
 beg:∀{Z:Sg}{K:V->Sg->Prop},aC E 11 [] Z K=K (.bool true) Z
section
variable {E:Env}{Z:Sg}{K:V->Sg->Prop}
theorem V4 (h:bJ E)(h':qO E)(hl:Lb.cK E) (q:GV E) (rg:Eh E) (kn:Mp E) (ga:RD E) {rs:List aD}(hf:Fits rs) {g w:V}(hg:Ji E rs g)(hw:RE rs w) {x:aJ}{c:Nat}{U:Sg}(hc:U[c]?=some (.cells 51 [.bool x.1,.str x.2] true)) (F:FT) (g9:F.get 9=g) (g10:F.get 10=w) (g12:F.get 12=.ref c 0) {st:List iW}{Q:Ax.X->Fr->Sg->Prop}
  (hk:∀F',(∀k,k∈[0,3,4,9,10,12,60,61,62]->F'.get k=F.get k)->M E st .normal ⟨152,F'⟩ U Q):Ax.R E (cutAt [1,1,1,1,1,1,1,1,0,1,2,2,1,1,0,2,1,0] (aA Tryz.f9).code) st ⟨152,F⟩ U Q:=by
 have d15:=ga.abp
 simp only[aA,Tryz.f9,cutAt,ag]at d15
 have k1:=λ(U:Sg)=>cH λK=>TO (Z:=U) (K:=K) h h' hl q hg hf x
 have k2:=λ(U:Sg)=>cH λK=>TL (Z:=U) (K:=K) h hl rg kn hw hf x
 have hnl:(iK rs x).length<=2000:=gh (pJ (CV rs x).nodup λy hy=>CU x y hy) (nW hf)
 have hul:(wV rs x).length<=2000:=gh (pJ (Ck rs x).nodup λy hy=>(B0 (jI.1 ((wD x y).2 hy))).1) (nW hf)
 simp only[aA,Tryz.f9,KP,Ax.loadAt,↓reduceIte,reduceEqDiff,reduceLT,reduceAdd,h.cL,cutAt,g9,g10,g12,hc,k1,k2,aK d15,a_]
 refine aO (Q6 h h' hl q hg hf x) ?_
 rintro v1 σ1 ⟨rfl,hv1⟩
 simp only[KP,Ax.loadAt,↓reduceIte,reduceEqDiff,reduceLT,reduceAdd,h.cL,g10,g12,hc]
 refine aO (Mh h hl rg kn hw hf x false) ?_
 rintro v2 σ2 ⟨rfl,hv2⟩
 rw[JZ]at hv2
 have k3:=λ(U:Sg)=>cH λK=>Lb.QT (Z:=U) (K:=K) hl (hv1.lv.sv U) (hv2.lv.sv U) (by omega)
 simp only[KP,Ax.loadAt,↓reduceIte,reduceEqDiff,reduceLT,reduceAdd,h.cL,g9,g12,hc,k3]
 refine aO (QZ h h' hl q hg hf x) ?_
 rintro v3 σ3 ⟨rfl,hv3⟩
 simp only[KP,Ax.loadAt,↓reduceIte,reduceEqDiff,reduceLT,reduceAdd,h.cL,g10,g12,hc]
 refine aO (Mh h hl rg kn hw hf x true) ?_
 rintro v4 σ4 ⟨rfl,hv4⟩
 rw[JX]at hv4
 have k4:=λ(U:Sg)=>cH λK=>Lb.QT (Z:=U) (K:=K) hl (hv3.lv.sv U) (hv4.lv.sv U) (by omega)
 simp only[KP,↓reduceIte,reduceEqDiff,reduceLT,k4]
 refine hk _ λk hk=>?_
 simp only[By,br,dz]at hk
 rcases hk with rfl | rfl | rfl | rfl | rfl | rfl | rfl | rfl | rfl <;> simp +decide only[GS]
end
end
section
section
variable {E:Env}{Z:Sg}{K:V->Sg->Prop}
theorem V3 (h:bJ E)(h':qO E)(hl:Lb.cK E) (q:GV E) (rg:Eh E) (kn:Mp E) (ga:RD E) {rs:List aD}(hf:Fits rs) {g rv:V}(hg:Ji E rs g) (ir:IS bS rv rs) {x:aJ}{c:Nat}{U:Sg}(hc:U[c]?=some (.cells 51 [.bool x.1,.str x.2] true)) (F:FT) (g0:F.get 0=rv) (g9:F.get 9=g) (g12:F.get 12=.ref c 0) {st:List iW}{Q:Ax.X->Fr->Sg->Prop}
  (hk:∀F' (a1 a2 a3 a4:V) (r:aD),(∀k,k∈[0,3,4,9,10,12,60,61,62]->F'.get k=F.get k)->F'.get 13=.str ((fW rs x.2).elim [] aD.name)->F'.get 14=.bool (fW rs x.2).isSome->F'.get 15=.int .i64 (idx (c_ rs x.2))->F'.get 16=.ref U.length 0->F'.get 17=.bool (cV rs x.2).isSome->F'.get 18=.int .i64 (idx (fF rs x.2)) ->
   r=(cV rs x.2).getD nO->iO aM a1 r.ins->iO aM a2 r.outs->iO aM a3 r.after->iO fE a4 r.steps->Ax.R E (cutAt [1,1,1,1,1,1,1,1,0,1,2,2,1,1,0,2,1,1,1,1,1,1] (aA Tryz.f9).code) st ⟨152,F'⟩ (U++[.cells 46 [.str r.name,a1,a2,a3,a4] true]) Q):Ax.R E (cutAt [1,1,1,1,1,1,1,1,0,1,2,2,1,1,0,2,1,1] (aA Tryz.f9).code) st ⟨152,F⟩ U Q:=by
 have hlen:=hf.len
 have k1:=λ(U:Sg)=>cH λK=>NX (Z:=U) (K:=K) h h' hl q hg hf x.2
 have k2:=λ(U:Sg)=>cH λK=>Ca (Z:=U) (K:=K) (s:=x.2) h (ir.ls U 46) (λx hx=>by have:=(hf.small x hx).outs;omega) (by omega)
 have k4:=λ(U:Sg)=>cH λK=>WE (Z:=U) (K:=K) (s:=x.2) h (ir.ls U 46) (by omega)
 rw[show (cutAt [1,1,1,1,1,1,1,1,0,1,2,2,1,1,0,2,1,1] (aA Tryz.f9).code)=.seq (cutAt [1,1,1,1,1,1,1,1,0,1,2,2,1,1,0,2,1,1,0] (aA Tryz.f9).code) (.seq (cutAt [1,1,1,1,1,1,1,1,0,1,2,2,1,1,0,2,1,1,1,0] (aA Tryz.f9).code) (.seq (cutAt [1,1,1,1,1,1,1,1,0,1,2,2,1,1,0,2,1,1,1,1,0] (aA Tryz.f9).code) (.seq (cutAt [1,1,1,1,1,1,1,1,0,1,2,2,1,1,0,2,1,1,1,1,1,0] (aA Tryz.f9).code) (cutAt [1,1,1,1,1,1,1,1,0,1,2,2,1,1,0,2,1,1,1,1,1,1] (aA Tryz.f9).code)))) from rfl]
 generalize cutAt [1,1,1,1,1,1,1,1,0,1,2,2,1,1,0,2,1,1,1,1,1,1] (aA Tryz.f9).code=B at hk ⊢
 simp only[aA,Tryz.f9,KP,Ax.loadAt,↓reduceIte,reduceEqDiff,reduceLT,reduceCtorEq,h.cM,h.cL,cutAt,g0,g9,g12,hc,k1,k2]
 refine aO (Q5 h h' hl q hg hf x.2) ?_
 rintro v1 σ1 ⟨rfl,w,rfl,a1,a2,a3,a4,rfl,i1,i2,i3,i4⟩
 have o1:=lR i1.is
 have o2:=lR i2.is
 have o3:=lR i3.is
 have o4:=lR i4.is
 have hc':(σ1++[.cells 46 [.str ((cV rs x.2).getD nO).name,a1,a2,a3,a4] true])[c]?=some (.cells 51 [.bool x.1,.str x.2] true):=aP hc
 simp only[KP,Ax.loadAt,Ax.storeAt,↓reduceIte,reduceEqDiff,reduceLT,reduceAdd,reduceCtorEq,h.cM,h.bC,h.cL,g0,g12,hc',k4,o1,o2,o3,o4,aR,dR]
 refine hk _ a1 a2 a3 a4 _ (λk hk=>?_) (by simp +decide only[GS]) (by simp +decide only[GS]) (by simp +decide only[GS]) (by simp +decide only[GS]) (by simp +decide only[GS]) (by simp +decide only[GS]) rfl i1 i2 i3 i4
 simp only[By,br,dz]at hk
 rcases hk with rfl | rfl | rfl | rfl | rfl | rfl | rfl | rfl | rfl <;> simp +decide only[GS]
end
end
section
section
variable {E:Env}{Z:Sg}{K:V->Sg->Prop}
theorem Em {v:V}{l:List aD}(hv:IS bS v l):oO 12 v v=true:=Jt 11 (λr x hr c hc=>by
 obtain⟨i,o,a,s,rfl,i1,i2,i3,i4⟩:=hr
 simp only[By,br,dz]at hc
 rcases hc with rfl | rfl | rfl | rfl | rfl
 ·exact wU 10 _
 ·exact bV 9 i1
 ·exact bV 9 i2
 ·exact bV 9 i3
 ·exact lN 8 i4) hv
theorem Md (h:bJ E)(h':qO E)(hl:Lb.cK E) (q:GV E) (rg:Eh E) (kn:Mp E) (ga:RD E) {a b:V}{r:aD}{U:Sg}(ha:LS bS 46 U a [r])(hb:LS bS 46 U b [r])(hs:Small r):∃n,gT E (ev E n) 27 [a,b] U=some (.bool true,U):=by
 have hw:aC E 27 [a,b] U λv σ'=>v=.bool true/\σ'=U:=by
  rw[b_Eq h hl rg kn ha hb (λx hx=>by rw[dc.1 hx];exact hs) (by simp),IG.2 rfl]
  exact⟨rfl,rfl⟩
 obtain⟨n,v,σ',hc,rfl,rfl⟩:=hw
 exact⟨n,hc⟩
theorem V2 (h:bJ E)(h':qO E)(hl:Lb.cK E) (q:GV E) (rg:Eh E) (kn:Mp E) (ga:RD E) {rs:List aD}(hf:Fits rs) {rv:V} (ir:IS bS rv rs) {s:bD}{r:aD}{a1 a2 a3 a4:V}{d:Nat}{U:Sg}(hd:U[d]?=some (.cells 46 [.str r.name,a1,a2,a3,a4] true))(hr:r=(cV rs s).getD nO) (i1:iO aM a1 r.ins) (i2:iO aM a2 r.outs) (i3:iO aM a3 r.after) (i4:iO fE a4 r.steps)
  (F:FT) (g0:F.get 0=rv) (g13:F.get 13=.str ((fW rs s).elim [] aD.name)) (g14:F.get 14=.bool (fW rs s).isSome) (g15:F.get 15=.int .i64 (idx (c_ rs s))) (g16:F.get 16=.ref d 0) (g17:F.get 17=.bool (cV rs s).isSome) (g18:F.get 18=.int .i64 (idx (fF rs s))) :
  ∃n F' τ',bG E (ev E n) (opsOf (cutAt [1,1,1,1,1,1,1,1,0,1,2,2,1,1,0,2,1,1,1,1,1,1,0] (aA Tryz.f9).code)) ⟨152,F⟩ U=some (⟨152,F'⟩,τ')/\(∀k,k∈[0,3,4,9,10,12,60,61,62]->F'.get k=F.get k)/\F'.get 150=.bool false/\∃ext,τ'=U++ext:=by
 have e4:∀c x y,kY E 4 c (.bool x) (.bool y)=some (x==y):=λc x y=>by unfold kY;simp only[h.uC]
 have lr:∀g (r0 r1 r2 r3 r4:V),loadAt E U 46 (.dH g [r0,r1,r2,r3,r4])=some (.agg [r0,r1,r2,r3,r4]):=λg r0 r1 r2 r3 r4=>LF h
 have o1:=lR i1.is
 have o2:=lR i2.is
 have o3:=lR i3.is
 have o4:=lR i4.is
 have hge:decide (0<=idx (none:Option Nat))=false:=rfl
 cases hm:c_ rs s with
 |none=>
  rw[hm]at g15
  rw[show fW rs s=none from yG hm]at g13 g14
  cases ht:fF rs s with
  |none=>
   rw[ht]at g18
   rw[show cV rs s=none from yG ht]at g17
   refine⟨0,?_⟩
   unfold bG
   rw[ga.KK,ga.Lq]
   simp only[aA,Tryz.f9,KP,↓reduceIte,reduceEqDiff,reduceLT,reduceLeDiff,reduceAdd,reduceMul,h.qA,h.bC,opsOf,cutAt,Fz.lits,eJ,bB,bQ,Ax.yielded,iX,Ax.comp,Ax.last,dM,Ax.again,Ax.fill,fG,fl,g14,g15,g17,g18,e4,hge]
   refine⟨_,_,rfl,λk hk=>?_,(by simp +decide only[GS]),[],(fh U).symm⟩
   simp only[By,br,dz]at hk
   rcases hk with rfl | rfl | rfl | rfl | rfl | rfl | rfl | rfl | rfl <;> simp +decide only[GS]
  |some k=>
   obtain⟨r1,hk0,-⟩:=fK (show bN _ rs=some k from ht)
   rw[ht,dI]at g18
   have hnm:cV rs s=some r1:=(tE ht).trans hk0
   rw[hnm]at g17 hr
   obtain rfl:r=r1:=hr
   have hkl:=(AS.1 hk0).1
   obtain⟨w,sw_,iw,-⟩:=rD (lo:=some (.int .i64 (k:Int))) (hi:=some (.int .i64 ((k+1:Nat):Int))) (a:=k) (b:=k+1) h.qA rfl h.bC rfl ir (.inr rfl) (.inr rfl) (by omega) (by omega)
   have e1:(rs.take (k+1)).drop k=[r]:=by
    rw[dh,hk0,qf]
    simp[mw (Nat.le_of_lt hkl)]
   rw[e1]at iw
   have hsm:=hf.small r (af hk0)
   have ow:bH bS 46 (U++[.cells 46 [.str r.name,a1,a2,a3,a4] true]) (.sl U.length 0 1 none) [r]:=.inr ⟨U.length,[[.str r.name,a1,a2,a3,a4]],true,rfl,aR,.cons ⟨a1,a2,a3,a4,rfl,i1.is,i2.is,i3.is,Gx (L:=fE) (M:=eK) (λr x ⟨a,l,e,j1,j2⟩=>⟨a,l,e,j1.is,j2.is⟩) i4.is⟩ .nil⟩
   obtain⟨n,hcall⟩:=Md h h' hl q rg kn ga ow.ls (iw.ls _ 46) hsm
   have hadd:=bY k (by have:=hf.len;omega)
   have vw:=Em iw
   refine⟨n,?_⟩
   unfold bG
   rw[ga.KK,ga.Lq]
   simp only[aA,Tryz.f9,KP,Ax.loadAt,↓reduceIte,reduceEqDiff,reduceLT,reduceLeDiff,reduceAdd,reduceMul,reduceCtorEq,h.qA,h.bC,opsOf,cutAt,Fz.lits,eJ,bB,bQ,Ax.yielded,iX,Ax.comp,Ax.last,dM,Ax.again,Ax.fill,fG,fl,g0,g14,g15,g16,g17,g18,hd,e4,o1,o2,o3,o4,hge,sw_,hcall,hadd,vw]
   refine⟨_,_,rfl,λk hk=>?_,(by simp +decide only[GS]),_,rfl⟩
   simp only[By,br,dz]at hk
   rcases hk with rfl | rfl | rfl | rfl | rfl | rfl | rfl | rfl | rfl <;> simp +decide only[GS]
 |some j=>
  obtain⟨r0,hj0,-⟩:=fK (show bN _ rs=some j from hm)
  rw[hm,dI]at g15
  rw[show fW rs s=some r0 from (tE hm).trans hj0]at g13 g14
  cases ht:fF rs s with
  |none=>
   rw[ht]at g18
   rw[show cV rs s=none from yG ht]at g17
   obtain⟨gj,b1,b2,b3,b4,ej,-⟩:=dK h ir hj0
   have s0:Ax.seq r0.name r0.name=true:=gC rfl
   refine⟨0,?_⟩
   unfold bG
   rw[ga.KK,ga.Lq]
   simp only[aA,Tryz.f9,KP,Ax.loadAt,↓reduceIte,reduceEqDiff,reduceLT,reduceLeDiff,reduceAdd,reduceMul,reduceCtorEq,h.cM,h.qA,h.bC,opsOf,cutAt,Fz.lits,eJ,bB,bQ,Ax.yielded,iX,Ax.comp,Ax.last,dM,Ax.again,Ax.fill,fG,fl,g0,g13,g14,g15,g17,g18,e4,ej,s0,Option.elim_some,hge]
   refine⟨_,_,rfl,λk hk=>?_,(by simp +decide only[GS]),[],(fh U).symm⟩
   simp only[By,br,dz]at hk
   rcases hk with rfl | rfl | rfl | rfl | rfl | rfl | rfl | rfl | rfl <;> simp +decide only[GS]
  |some k=>
   obtain⟨r1,hk0,-⟩:=fK (show bN _ rs=some k from ht)
   rw[ht,dI]at g18
   have hnm:cV rs s=some r1:=(tE ht).trans hk0
   rw[hnm]at g17 hr
   obtain rfl:r=r1:=hr
   obtain⟨gj,b1,b2,b3,b4,ej,-⟩:=dK h ir hj0
   have s0:Ax.seq r0.name r0.name=true:=gC rfl
   have hkl:=(AS.1 hk0).1
   obtain⟨w,sw_,iw,-⟩:=rD (lo:=some (.int .i64 (k:Int))) (hi:=some (.int .i64 ((k+1:Nat):Int))) (a:=k) (b:=k+1) h.qA rfl h.bC rfl ir (.inr rfl) (.inr rfl) (by omega) (by omega)
   have e1:(rs.take (k+1)).drop k=[r]:=by
    rw[dh,hk0,qf]
    simp[mw (Nat.le_of_lt hkl)]
   rw[e1]at iw
   have hsm:=hf.small r (af hk0)
   have ow:bH bS 46 (U++[.cells 46 [.str r.name,a1,a2,a3,a4] true]) (.sl U.length 0 1 none) [r]:=.inr ⟨U.length,[[.str r.name,a1,a2,a3,a4]],true,rfl,aR,.cons ⟨a1,a2,a3,a4,rfl,i1.is,i2.is,i3.is,Gx (L:=fE) (M:=eK) (λr x ⟨a,l,e,j1,j2⟩=>⟨a,l,e,j1.is,j2.is⟩) i4.is⟩ .nil⟩
   obtain⟨n,hcall⟩:=Md h h' hl q rg kn ga ow.ls (iw.ls _ 46) hsm
   have hadd:=bY k (by have:=hf.len;omega)
   have vw:=Em iw
   refine⟨n,?_⟩
   unfold bG
   rw[ga.KK,ga.Lq]
   simp only[aA,Tryz.f9,KP,Ax.loadAt,↓reduceIte,reduceEqDiff,reduceLT,reduceLeDiff,reduceAdd,reduceMul,reduceCtorEq,h.cM,h.qA,h.bC,opsOf,cutAt,Fz.lits,eJ,bB,bQ,Ax.yielded,iX,Ax.comp,Ax.last,dM,Ax.again,Ax.fill,fG,fl,g0,g13,g14,g15,g16,g17,g18,hd,e4,o1,o2,o3,o4,ej,s0,Option.elim_some,sw_,hcall,hadd,vw]
   refine⟨_,_,rfl,λk hk=>?_,(by simp +decide only[GS]),_,rfl⟩
   simp only[By,br,dz]at hk
   rcases hk with rfl | rfl | rfl | rfl | rfl | rfl | rfl | rfl | rfl <;> simp +decide only[GS]
end
end
section
structure TrE (E:Env):Prop where
 hs101:E.hspec 101=none
 sp101:E.spec 101=none
 fn101:E.fn 101=some (aA Tryz.f101)
 md101:E.mode 101=.fD
 d101_21:aI E (cutAt [1,1,1,1,0,2,2,1,2,1,0,1,2,2,1,1,0,2,1,1,2,2,1,1,0,2,1,1,1,0,0] (aA Tryz.f101).code)=true
 hs34:E.hspec 34=none
 sp34:E.spec 34=none
 fn34:E.fn 34=some (aA Tryz.f34)
 md34:E.mode 34=.fD
 hs103:E.hspec 103=none
 sp103:E.spec 103=none
 fn103:E.fn 103=some (aA Tryz.f103)
 md103:E.mode 103=.fD
 hs40:E.hspec 40=none
 sp40:E.spec 40=none
 fn40:E.fn 40=some (aA Tryz.f40)
 md40:E.mode 40=.fD
 d40_4:aI E (cutAt [1,0,1,2,2,1,1,0,2,1,0] (aA Tryz.f40).code)=true
 aai:E.hspec 102=none
 XU:E.spec 102=none
 aa4:E.fn 102=some (aA Tryz.f102)
 Zo:E.mode 102=.fD
 hs108:E.hspec 108=none
 sp108:E.spec 108=none
 fn108:E.fn 108=some (aA Tryz.f108)
 md108:E.mode 108=.fD
 hs136:E.hspec 136=none
 sp136:E.spec 136=none
 fn136:E.fn 136=some (aA Tryz.f136)
 md136:E.mode 136=.fD
 d136_4:aI E (cutAt [1,0,1,2,2,1,1,0,2,1,0] (aA Tryz.f136).code)=true
 ty131:E.ty 131=some { kd:=.map 51 3,size:=1,bytes:=8,zero:=.b_ }
section
variable {E:Env}{Z:Sg}{K:V->Sg->Prop}
def Jh (nx:aJ->List aJ) (s0:aJ->Prop) (d:Nat) (x:aJ):Prop:=Rk nx s0 d x/\∀d',d'<d->¬ Rk nx s0 d' x
section
variable {nx:aJ->List aJ}{s0:aJ->Prop}
theorem Jh.uniq {d e:Nat}{x:aJ}(h:Jh nx s0 d x)(h':Jh nx s0 e x):d=e:=by
 rcases jq d e with h1 | h1 | h1
 ·exact absurd h.1 (h'.2 d h1)
 ·exact h1
 ·exact absurd h'.1 (h.2 e h1)
theorem Jh.some {n:Nat}{x:aJ}(h:Rk nx s0 n x):∃d,d<=n/\Jh nx s0 d x:=by
 induction n using Nat.strongRecOn with
 |_ n ih=>
  by_cases hx:∃m,m<n/\Rk nx s0 m x
  ·obtain⟨m,hm,hr⟩:=hx
   obtain⟨d,hd,hi⟩:=ih m hm hr
   exact⟨d,by omega,hi⟩
  ·exact⟨n,ae _,h,λd' hd hr=>hx ⟨d',hd,hr⟩⟩
theorem Jh.back {d:Nat}{x:aJ}(h:Jh nx s0 (d+1) x):∃y,Jh nx s0 d y/\x∈nx y:=by
 rcases h.1 with h1 | ⟨y,hy,hx⟩
 ·exact absurd h1 (h.2 d (jy d))
 ·refine⟨y,⟨hy,λd' hd hr=>?_⟩,hx⟩
  exact h.2 (d'+1) (by omega) (.inr ⟨y,hr,hx⟩)
theorem Jh.next {d e:Nat}{x y:aJ}(h:Jh nx s0 d y)(hx:x∈nx y)(h':Jh nx s0 e x):e<=d+1:=
 oo λhlt=>h'.2 (d+1) hlt (.inr ⟨y,h.1,hx⟩)
structure Di (nx:aJ->List aJ) (s0:aJ->Prop) (k:Nat) (A now:List aJ) (f:aJ->Option Nat):Prop where
 rd:Rd nx s0 k A now
 is:∀x,x∈A->∃d,f x=some d/\Jh nx s0 d x
 no:∀x,x ∉ A->f x=none
 last:∀x,x∈now->Jh nx s0 k x
theorem Di.start {A now:List aJ}{f:aJ->Option Nat}(h1:∀x,x∈A ↔ s0 x)(h2:∀x,x∈now ↔ x∈A)(hf:∀x,x∈A->f x=some 0)(hn:∀x,x ∉ A->f x=none):Di nx s0 0 A now f:=
 ⟨Rd.start h1 h2,λx hx=>⟨0,hf x hx,(h1 x).1 hx,λd' hd=>by omega⟩,hn,λx hx=>⟨(h1 x).1 ((h2 x).1 hx),λd' hd=>by omega⟩⟩
theorem Di.next {k:Nat}{A now A' more:List aJ}{f f':aJ->Option Nat}(h:Di nx s0 k A now f)(h1:∀x,x∈A' ↔ x∈A\/∃y∈now,x∈nx y)(h2:∀x,x∈more ↔ x∈A'/\x ∉ A)(hf:∀x,x∈more->f' x=some (k+1))(hf':∀x,x ∉ more->f' x=f x):Di nx s0 (k+1) A' more f':=by
 have rd:=h.rd.next h1 h2
 have hm:∀x,x∈more->Jh nx s0 (k+1) x:=λx hx=>by
  obtain⟨hA',hA⟩:=(h2 x).1 hx
  exact⟨(rd.all x).1 hA',λd' hd hr=>hA ((h.rd.all x).2 (hr.mono (by omega)))⟩
 refine⟨rd,λx hx=>?_,λx hx=>?_,hm⟩
 ·by_cases hxm:x∈more
  ·exact⟨k+1,hf x hxm,hm x hxm⟩
  ·have hxA:x∈A:=Classical.byContradiction λhn=>hxm ((h2 x).2 ⟨hx,hn⟩)
   rw[hf' x hxm]
   exact h.is x hxA
 ·rw[hf' x λhxm=>hx ((h2 x).1 hxm).1]
  exact h.no x λhxA=>hx ((h1 x).2 (.inl hxA))
theorem Di.fin {k:Nat}{A:List aJ}{f:aJ->Option Nat}(h:Di nx s0 k A [] f) (x:aJ) (d:Nat):f x=some d ↔ Jh nx s0 d x:=by
 constructor
 ·intro hx
  by_cases hA:x∈A
  ·obtain⟨e,h1,h2⟩:=h.is x hA
   rw[hx]at h1
   cases h1
   exact h2
  ·rw[h.no x hA]at hx;cases hx
 ·intro hd
  have hA:x∈A:=(h.rd.still (bR:=-1) (by omega) x).2 (.inl ⟨by omega,d,hd.1⟩)
  obtain⟨e,h1,h2⟩:=h.is x hA
  rw[h1,h2.uniq hd]
end
def Km (D:List (aJ × Nat)) (x:aJ):Option Nat:=(D.find? λp=>decide (x=p.1)).map Prod.snd
theorem QA {D:List (aJ × Nat)}{x:aJ}:Km D x=none ↔ x ∉ D.map Prod.fst:=by
 unfold Km
 rw[Option.map_eq_none_iff,jx,cg]
 constructor
 ·rintro h ⟨p,hp,rfl⟩
  exact h p hp (AT rfl)
 ·exact λh p hp e=>h ⟨p,hp,(dx e).symm⟩
theorem Qz {D:List (aJ × Nat)}{x:aJ}(hx:x ∉ D.map Prod.fst) (d:Nat) (y:aJ):Km (D++[(x,d)]) y=if y=x then some d else Km D y:=by
 have h0:=QA.2 hx
 unfold Km at h0 ⊢
 rw[List.find?_append]
 by_cases hy:y=x
 ·subst hy
  rw[Option.map_eq_none_iff]at h0
  rw[h0,b8 rfl]
  simp only[jv,Option.none_or,decide_true,bt]
 ·rw[ay hy]
  simp only[jv,List.find?_nil,AI hy,Option.or_none]
end
end
section
section
variable {E:Env}{Z:Sg}{K:V->Sg->Prop}
def Fi (D0 D:List (aJ × Nat)) (more:List aJ) (k:Nat):Prop:=∀x,Km D x=if x∈more then some (k+1) else Km D0 x
theorem Fi.start (D0:List (aJ × Nat)) (k:Nat):Fi D0 D0 [] k:=λx=>by rw[ay (by simp)]
theorem Fi.fresh {D0 D:List (aJ × Nat)}{more:List aJ}{k:Nat}(h:Fi D0 D more k) {x:aJ}(hx:x ∉ D.map Prod.fst):Fi D0 (D++[(x,k+1)]) (more++[x]) k:=λy=>by
 rw[Qz hx]
 by_cases hy:y=x
 ·rw[b8 hy,b8 (by rw[hy];simp)]
 ·rw[ay hy,h y]
  by_cases hm:y∈more
  ·rw[b8 hm,b8 (by simp[hm])]
  ·rw[ay hm,ay (by simp[hm,hy])]
end
end
section
section
variable {E:Env}{Z:Sg}{K:V->Sg->Prop}
theorem Di.le {nx:aJ->List aJ}{s0:aJ->Prop}{k M:Nat}{A now:List aJ}{f:aJ->Option Nat}(h:Di nx s0 k A now f)(hk:k<=M) (x:aJ) (d:Nat)(hd:f x=some d):d<=M:=by
 by_cases hA:x∈A
 ·obtain⟨e,h1,h2⟩:=h.is x hA
  rw[hd]at h1
  cases h1
  have hr:=(h.rd.all x).1 hA
  exact oo λhlt=>h2.2 k (by omega) hr
 ·rw[h.no x hA]at hd;cases hd
structure DistD (rs:List aD) (ls:List aJ) (D:List (aJ × Nat)):Prop where
 is:∀x d,Km D x=some d ↔ Jh (wV rs) (λx=>x∈ls/\x∈dV rs) d x
 le:∀x d,Km D x=some d->d<=2001
end
end
section
section
variable {E:Env}{Z:Sg}{K:V->Sg->Prop}
def T8 (D:List (aJ × Nat)) (S:List aJ) (i:Nat) (left:Int) (p:List aJ):Prop:=
 (left = -1/\p=[]/\∀(j:Nat) (x:aJ),j<i->S[j]?=some x->Km D x=none) \/
 ∃(j:Nat) (x0:aJ) (d:Nat),j<i/\S[j]?=some x0/\Km D x0=some d/\left=(d:Int)/\p=[x0]/\∀(j':Nat) (x:aJ) (e:Nat),j'<i->S[j']?=some x->Km D x=some e->d<=e/\(j'<j->d<e)
theorem T8.none {D:List (aJ × Nat)}{S:List aJ}{i:Nat}{left:Int}{p:List aJ}(h:T8 D S i left p) {x:aJ}(hx:S[i]?=some x)(hd:Km D x=none):T8 D S (i+1) left p:=by
 rcases h with⟨h1,h2,h3⟩ | ⟨j,x0,d,h1,h2,h3,h4,h5,h6⟩
 ·refine .inl ⟨h1,h2,λj y hj hy=>?_⟩
  rcases cj j i with g | g
  ·exact h3 j y g hy
  ·obtain rfl:j=i:=by omega
   rw[hx]at hy;cases hy;exact hd
 ·refine .inr ⟨j,x0,d,by omega,h2,h3,h4,h5,λj' y e hj' hy he=>?_⟩
  rcases cj j' i with g | g
  ·exact h6 j' y e g hy he
  ·obtain rfl:j'=i:=by omega
   rw[hx]at hy;cases hy;rw[hd]at he;cases he
theorem T8.take {D:List (aJ × Nat)}{S:List aJ}{i:Nat}{left:Int}{p:List aJ}(h:T8 D S i left p) {x:aJ}{d:Nat}(hx:S[i]?=some x)(hd:Km D x=some d)(hlt:left<0\/(d:Int)<left):T8 D S (i+1) (d:Int) [x]:=by
 refine .inr ⟨i,x,d,by omega,hx,hd,rfl,rfl,λj' y e hj' hy he=>?_⟩
 rcases cj j' i with g | g
 ·rcases h with⟨h1,h2,h3⟩ | ⟨j,x0,d0,h1,h2,h3,h4,h5,h6⟩
  ·rw[h3 j' y g hy]at he;cases he
  ·have:=(h6 j' y e g hy he).1
   exact⟨by omega,λ_=>by omega⟩
 ·obtain rfl:j'=i:=by omega
  rw[hx]at hy;cases hy;rw[hd]at he;cases he
  exact⟨ae _,λhh=>absurd hh (bg _)⟩
theorem T8.skip {D:List (aJ × Nat)}{S:List aJ}{i:Nat}{left:Int}{p:List aJ}(h:T8 D S i left p) {x:aJ}{d:Nat}(hx:S[i]?=some x)(hd:Km D x=some d)(hlt:0<=left)(hge:left<=(d:Int)):T8 D S (i+1) left p:=by
 rcases h with⟨h1,h2,h3⟩ | ⟨j,x0,d0,h1,h2,h3,h4,h5,h6⟩
 ·omega
 ·refine .inr ⟨j,x0,d0,by omega,h2,h3,h4,h5,λj' y e hj' hy he=>?_⟩
  rcases cj j' i with g | g
  ·exact h6 j' y e g hy he
  ·obtain rfl:j'=i:=by omega
   rw[hx]at hy;cases hy;rw[hd]at he;cases he
   exact⟨by omega,λhh=>by omega⟩
end
end
section
section
variable {E:Env}{Z:Sg}{K:V->Sg->Prop}
theorem S1 (h:bJ E)(h':qO E)(hl:Lb.cK E) (q:GV E) (rg:Eh E) (kn:Mp E) (ga:RD E) {rs:List aD}(hf:Fits rs) {g w rv:V}(hg:Ji E rs g)(hw:RE rs w) (ir:IS bS rv rs) {A:List aJ}{sv:V}{i:Nat}{x:aJ}(hx:A[i]?=some x) {U:Sg} (on:bH pP 51 U sv A) (F:FT) (g0:F.get 0=rv) (g9:F.get 9=g) (g10:F.get 10=w) (g60:F.get 60=sv) (g62:F.get 62=.int .i64 (i:Int)) {st:List iW}{Q:Ax.X->Fr->Sg->Prop}
  (hk:∀F' τ',(∀k,k∈[0,3,4,9,10,60,61,62]->F'.get k=F.get k)->(∃ext,τ'=U++ext)->M E st .normal ⟨152,F'⟩ τ' Q):Ax.R E (cutAt [1,1,1,1,1,1,1,1,0,1,2,2,1,1,0,2] (aA Tryz.f9).code) st ⟨152,F⟩ U Q:=by
 obtain⟨c,o,u,cs,ex,e1,hc,hle,hrow⟩:=Vu hl on hx
 have r15:=λ{c U} hc F g9 g10 g12 st Q hk=>V4 (rs:=rs) (g:=g) (w:=w) (x:=x) (c:=c) (U:=U) h h' hl q rg kn ga hf hg hw hc F g9 g10 g12 (st:=st) (Q:=Q) hk
 have r17:=λ{c U} hc F g0 g9 g12 st Q hk=>V3 (rs:=rs) (g:=g) (rv:=rv) (x:=x) (c:=c) (U:=U) h h' hl q rg kn ga hf hg ir hc F g0 g9 g12 (st:=st) (Q:=Q) hk
 rw[show (cutAt [1,1,1,1,1,1,1,1,0,1,2,2,1,1,0,2,1,1,1,1,1,1] (aA Tryz.f9).code)=.seq (.region 21 (opsOf (cutAt [1,1,1,1,1,1,1,1,0,1,2,2,1,1,0,2,1,1,1,1,1,1,0] (aA Tryz.f9).code)) true) (cutAt [1,1,1,1,1,1,1,1,0,1,2,2,1,1,0,2,1,1,1,1,1,1,1] (aA Tryz.f9).code) from rfl]at r17
 rw[show (cutAt [1,1,1,1,1,1,1,1,0,1,2,2,1,1,0,2] (aA Tryz.f9).code)=.seq (cutAt [1,1,1,1,1,1,1,1,0,1,2,2,1,1,0,2,0] (aA Tryz.f9).code) (.seq (cutAt [1,1,1,1,1,1,1,1,0,1,2,2,1,1,0,2,1,0] (aA Tryz.f9).code) (cutAt [1,1,1,1,1,1,1,1,0,1,2,2,1,1,0,2,1,1] (aA Tryz.f9).code)) from rfl]
 generalize cutAt [1,1,1,1,1,1,1,1,0,1,2,2,1,1,0,2,1,0] (aA Tryz.f9).code=B1 at r15 ⊢
 generalize cutAt [1,1,1,1,1,1,1,1,0,1,2,2,1,1,0,2,1,1] (aA Tryz.f9).code=B2 at r17 ⊢
 simp only[aA,Tryz.f9,KP,Ax.loadAt,Ax.storeAt,↓reduceIte,reduceEqDiff,reduceLT,reduceAdd,h.cL,cutAt,g60,g62,e1,hc,hle,hrow,row,aR,dR]
 refine r15 aR _ (by simp +decide only[GS,g9]) (by simp +decide only[GS,g10]) (by simp +decide only[GS]) _ _ (λF2 kp=>?_)
 simp only[KP]
 refine r17 aR _ ((kp 0 (by decide)).trans (by simp +decide only[GS,g0])) ((kp 9 (by decide)).trans (by simp +decide only[GS,g9])) ((kp 12 (by decide)).trans (by simp +decide only[GS])) _ _ (λF3 a1 a2 a3 a4 r kp3 g13 g14 g15 g16 g17 g18 hr i1 i2 i3 i4=>?_)
 obtain⟨n,F4,τ4,hD,kp4,g150,ext,rfl⟩:=V2 h h' hl q rg kn ga hf ir aR hr i1 i2 i3 i4 F3 ((kp3 0 (by decide)).trans ((kp 0 (by decide)).trans (by simp +decide only[GS,g0]))) g13 g14 g15 g16 g17 g18
 rw[Lp]
 refine Eq.mpr (fP hD) ?_
 simp only[aA,Tryz.f9,KP,↓reduceIte,reduceLT,cutAt,g150]
 refine hk _ _ (λk hk=>?_) ⟨[.cells 51 [.bool x.1,.str x.2] true]++([.cells 46 [.str r.name,a1,a2,a3,a4] true]++ext),by simp only[cm]⟩
 have hk2:k∈[0,3,4,9,10,12,60,61,62]:=by
  simp only[By,br,dz]at hk ⊢
  omega
 refine (kp4 k hk2).trans ((kp3 k hk2).trans ((kp k hk2).trans ?_))
 simp only[By,br,dz]at hk
 rcases hk with rfl | rfl | rfl | rfl | rfl | rfl | rfl | rfl <;> simp +decide only[GS]
end
end
section
section
variable {E:Env}{Z:Sg}{K:V->Sg->Prop}
theorem S0 (h:bJ E)(h':qO E)(hl:Lb.cK E) (q:GV E) (rg:Eh E) (kn:Mp E) (ga:RD E) {a':V}{rs:List aD} (ia:IS bS a' rs)(hraw:∀x∈rs,Raw x) (x:aJ) (F:FT) (g0:F.get 0=a') (g1:F.get 1=.agg [.bool x.1,.str x.2]) {st:List iW}{Q:Ax.X->Fr->Sg->Prop}
  (hk:∀F' (l:List aD) (rv g w:V),Fits l->IS bS rv l->l.length<=14->Ji E l g->RE l w->F'.get 0=rv->F'.get 3=.ref 0 0->F'.get 9=g->F'.get 10=w->Ax.R E (cutAt [1,1,1,1,1,1,1,1] (aA Tryz.f9).code) st ⟨152,F'⟩ [.cells 51 [.bool x.1,.str x.2] true] Q):Ax.R E (aA Tryz.f9).code st ⟨152,F⟩ [] Q:=by
 have d10:=ga.abq
 simp only[aA,Tryz.f9,cutAt,ag]at d10
 have kb:=λ(U:Sg)=>cH λK=>ga.beg (Z:=U) (K:=K)
 have e4:∀c x y,kY E 4 c (.bool x) (.bool y)=some (x==y):=λc x y=>by unfold kY;simp only[h.uC]
 rw[show (aA Tryz.f9).code=.seq (cutAt [0] (aA Tryz.f9).code) (.seq (cutAt [1,0] (aA Tryz.f9).code) (.seq (cutAt [1,1,0] (aA Tryz.f9).code) (.seq (cutAt [1,1,1,0] (aA Tryz.f9).code) (.seq (cutAt [1,1,1,1,0] (aA Tryz.f9).code) (.seq (cutAt [1,1,1,1,1,0] (aA Tryz.f9).code) (.seq (cutAt [1,1,1,1,1,1,0] (aA Tryz.f9).code) (.seq (cutAt [1,1,1,1,1,1,1,0] (aA Tryz.f9).code) ((cutAt [1,1,1,1,1,1,1,1] (aA Tryz.f9).code))))))))) from rfl]
 generalize cutAt [1,1,1,1,1,1,1,1] (aA Tryz.f9).code=B at hk ⊢
 simp only[aA,Tryz.f9,KP,↓reduceIte,reduceLT,reduceAdd,reduceCtorEq,h.cL,cutAt,g0,g1,kb,V.cells,V.aW]
 refine aO (DQ h (ia.ls _ 46) hraw) ?_
 rintro v1 σ1 ⟨rfl,iv1⟩
 have sm:∀x∈(rs.take 42).map cut,Small x:=λx hx=>by
  obtain⟨y,-,rfl⟩:=cg.1 hx
  exact Fo y
 have hl42:((rs.take 42).map cut).length<=42:=by rw[az,bl];omega
 generalize (rs.take 42).map cut=ls at iv1 sm hl42
 have iv:=Du iv1
 have sms:vO ls:=⟨by omega,sm⟩
 simp only[KP,↓reduceIte,reduceLT]
 refine aO (IV h (iv.ls _ 46) sms) ?_
 rintro v2 σ2 ⟨rfl,e,nm,rfl,hall⟩
 simp only[KP,↓reduceIte,reduceEqDiff,reduceLT]
 refine aO (DR h h' hl (iv.ls _ 46) sm (by omega)) ?_
 rintro g0_ σ3 ⟨rfl,hgn⟩
 have eqn:∀{l:List aD}{g:V},Ji E l g->∀c,kY E 27 c g .fJ=some false:=λ{l g} hg c=>by
  obtain⟨es0,es1,get,A,L3,L4,rfl,hi⟩:=hg
  unfold gV kY
  rw[h'.G7]
 have eqz:∀c,kY E 27 c .fJ .fJ=some true:=λc=>by
  unfold kY
  rw[h'.G7]
 have step:∃b:Bool,(∀c,kY E 27 c g0_ .fJ=some b)/\decide (e=0) = !b:=by
  rcases hgn with⟨hno,rfl⟩ | ⟨hok,hg⟩
  ·exact⟨true,eqz,AI λe0=>hno (hall.zero.1 e0)⟩
  ·exact⟨false,eqn hg,AT (hall.zero.2 hok)⟩
 obtain⟨b,hb1,hb2⟩:=step
 have hbb:(b == !!b)=true:=by cases b <;> rfl
 simp only[KP,↓reduceIte,reduceEqDiff,reduceLT,reduceCtorEq,g0,hb1,hb2,e4,hbb]
 refine aO (WC h (ia.ls _ 46) hraw) ?_
 rintro rv σ4 ⟨rfl,l,ivl,hok,hl14,hsm⟩
 have irl:=Du ivl
 have hf:Fits l:=⟨hok,hsm⟩
 simp only[KP,↓reduceIte,reduceLT]
 refine aO (DR h h' hl (irl.ls _ 46) hsm (by omega)) ?_
 rintro g σ5 ⟨rfl,⟨hno,-⟩ | ⟨-,hg⟩⟩
 ·exact absurd hok hno
 simp only[KP,↓reduceIte,reduceLT,reduceCtorEq]
 refine aO (Wu h hl rg (irl.ls _ 46) hf) ?_
 rintro w σ6 ⟨rfl,hw⟩
 have hw0:=hw
 obtain⟨rw_,lv,nv,rfl,hR,hL,hN⟩:=hw
 have eqg:=eqn hg
 have hal:=nW hf
 simp only[KP,↓reduceIte,reduceEqDiff,reduceLT,eqg,aK d10,a_]
 refine aO (Wv h h' hl q hg hf) ?_
 rintro va σ7 ⟨rfl,hva⟩
 have k3:=λ(U:Sg)=>cH λK=>Lb.QT (Z:=U) (K:=K) hl (hva.lv.sv U) (hL.lv.sv U) (by omega)
 simp only[KP,Ax.loadAt,↓reduceIte,reduceEqDiff,reduceLT,reduceCtorEq,h.fO,rg.nQ,k3]
 exact hk _ l rv g _ hf irl hl14 hg hw0 (by simp +decide only[GS]) (by simp +decide only[GS]) (by simp +decide only[GS]) (by simp +decide only[GS])
end
end
section
section
variable {E:Env}{Z:Sg}{K:V->Sg->Prop}
theorem SZ (h:bJ E)(h':qO E)(hl:Lb.cK E) (q:GV E) (rg:Eh E) (kn:Mp E) (ga:RD E) {rs:List aD}(hf:Fits rs) {g w rv:V}(hg:Ji E rs g)(hw:RE rs w) (ir:IS bS rv rs) {A:List aJ}(hA:A.length<=1000000) {sv:V}{U:Sg} (on:bH pP 51 U sv A) (F:FT) (g0:F.get 0=rv) (g9:F.get 9=g) (g10:F.get 10=w) (g60:F.get 60=sv) (g61:F.get 61=.int .i64 (A.length:Int)) (g62:F.get 62=.int .i64 ((0:Nat):Int)) {st:List iW}{Q:Ax.X->Fr->Sg->Prop}
  (hk:∀F' τ',M E st .normal ⟨152,F'⟩ τ' Q):Ax.R E (.block 0 (.loop (cutAt [1,1,1,1,1,1,1,1,0,1,2,2] (aA Tryz.f9).code))) st ⟨152,F⟩ U Q:=by
 have inner:=λ{i x U} hx on F g0 g9 g10 g60 g62 st Q hk=>S1 (rs:=rs) (g:=g) (w:=w) (rv:=rv) (A:=A) (sv:=sv) (i:=i) (x:=x) (U:=U) h h' hl q rg kn ga hf hg hw ir hx on F g0 g9 g10 g60 g62 (st:=st) (Q:=Q) hk
 rw[show (cutAt [1,1,1,1,1,1,1,1,0,1,2,2] (aA Tryz.f9).code)=.seq (cutAt [1,1,1,1,1,1,1,1,0,1,2,2,0] (aA Tryz.f9).code) (.seq (cutAt [1,1,1,1,1,1,1,1,0,1,2,2,1,0] (aA Tryz.f9).code) (.seq (.block 1 (cutAt [1,1,1,1,1,1,1,1,0,1,2,2,1,1,0,2] (aA Tryz.f9).code)) (cutAt [1,1,1,1,1,1,1,1,0,1,2,2,1,1,1] (aA Tryz.f9).code))) from rfl]
 generalize cutAt [1,1,1,1,1,1,1,1,0,1,2,2,1,1,0,2] (aA Tryz.f9).code=B at inner ⊢
 simp only[aA,Tryz.f9,KP,cutAt]
 refine aV (λi F U=>F.get 0=rv/\F.get 9=g/\F.get 10=w/\F.get 60=sv/\F.get 61=.int .i64 (A.length:Int)/\F.get 62=.int .i64 (i:Int)/\bH pP 51 U sv A) A.length ?_ ?_ A.length 0 _ _ (by omega) ⟨g0,g9,g10,g60,g61,g62,on⟩
 ·clear g0 g9 g10 g60 g61 g62 on
  rintro i F U hi ⟨g0,g9,g10,g60,g61,g62,on⟩ next
  obtain⟨x,hx⟩:∃x,A[i]?=some x:=⟨_,BY hi⟩
  have hlt:=eC hi
  have hadd:=bY i (by omega)
  rw[aF]
  simp only[KP,↓reduceIte,reduceLT,g61,g62,hlt]
  refine inner hx on _ (by simp +decide only[GS,g0]) (by simp +decide only[GS,g9]) (by simp +decide only[GS,g10]) (by simp +decide only[GS,g60]) (by simp +decide only[GS,g62]) _ _ (λF2 τ2 kp hext=>?_)
  obtain⟨ext,rfl⟩:=hext
  have k62:F2.get 62=.int .i64 (i:Int):=(kp 62 (by decide)).trans (by simp +decide only[GS,g62])
  simp only[KP,↓reduceIte,reduceLT,k62,hadd]
  refine next _ _ ⟨?_,?_,?_,?_,?_,(by simp +decide only[GS]),on.app ext⟩
  ·exact Eq.trans (by simp +decide only[GS]) ((kp 0 (by decide)).trans (by simp +decide only[GS,g0]))
  ·exact Eq.trans (by simp +decide only[GS]) ((kp 9 (by decide)).trans (by simp +decide only[GS,g9]))
  ·exact Eq.trans (by simp +decide only[GS]) ((kp 10 (by decide)).trans (by simp +decide only[GS,g10]))
  ·exact Eq.trans (by simp +decide only[GS]) ((kp 60 (by decide)).trans (by simp +decide only[GS,g60]))
  ·exact Eq.trans (by simp +decide only[GS]) ((kp 61 (by decide)).trans (by simp +decide only[GS,g61]))
 ·rintro F U ⟨g0,g9,g10,g60,g61,g62,on⟩
  have hlt:=eG (bg A.length)
  rw[aF]
  simp only[KP,↓reduceIte,reduceLT,g61,g62,hlt]
  exact hk _ _
end
end
section
section
variable {E:Env}{Z:Sg}{K:V->Sg->Prop}
theorem Wx (h:bJ E)(hl:Lb.cK E)(hm:E.mode 15=.shared) {lv:V}{l:List aJ} (iv:IS pP lv l)(hll:l.length<=1000000):aC E 15 [lv] Z λv σ'=>bH pP 51 σ' v (l.take 20)/\∀(k:Nat) (o:O),Z[k]?=some o->σ'[k]?=some o:=by
 rw[eD hl.hs15 hl.OT hl.fn15 hm,aX (by kernel_rfl)]
 obtain⟨w,sw_,iw,-⟩:=rD (lo:=none) (hi:=some (.int .i64 ((min l.length 20:Nat):Int))) (a:=0) (b:=min l.length 20) hl.fO rfl hl.cL rfl iv (.inr rfl) (.inl ⟨rfl,rfl⟩) (gz _) (Nat.min_le_left ..)
 rw[eu]at iw
 have hq:(l.take (min l.length 20)).length<=20:=by rw[bl];omega
 obtain⟨rs,er,ha⟩:=mI iw Z
 obtain⟨w',σ',ha',ow,sp,-,-⟩:=iB (m:=l.take (min l.length 20)) (new:=rs) (Z:=Z) hl.fO rfl hl.cL rfl (by decide) (xW hl) rfl (show bH pP 51 Z .aB [] from .inl ⟨rfl,rfl⟩) er ha (cZ (b:=20) (by decide) (by simp only[bf];omega))
 have la:=uW h iv
 rw[cq,show l.take (min l.length 20)=l.take 20 by rw[List.take_eq_take_iff];omega]at ow
 simp only[aA,Tryz.f15,KP,↓reduceIte,reduceEqDiff,reduceLT,reduceCtorEq,la,jM,Lb.YJ,sw_,ha']
 exact⟨ow,λk o hk=>sp k o hk (λe=>by cases e)⟩
end
end
section
section
variable {E:Env}{Z:Sg}{K:V->Sg->Prop}
theorem V5 (h:bJ E)(h':qO E)(hl:Lb.cK E) (q:GV E) (rg:Eh E) (kn:Mp E) (ga:RD E)(hm:E.mode 15=.shared) (z12:eL E (opsOf (cutAt [1,1,1,1,1,1,1,1,0,0] (aA Tryz.f9).code))=.lit) (Vp:cB E .lit (opsOf (cutAt [1,1,1,1,1,1,1,1,0,0] (aA Tryz.f9).code))=some [⟨4,5,true,false⟩]) {rs:List aD}(hf:Fits rs) {w:V}(hw:RE rs w) {x:aJ} (F:FT) (g3:F.get 3=.ref 0 0) (g10:F.get 10=w) {st:List iW}{Q:Ax.X->Fr->Sg->Prop}
  (hk:∀F' τ' sv A,(∀k,k∈[0,9,10]->F'.get k=F.get k)->F'.get 60=sv->F'.get 61=.int .i64 (A.length:Int)->F'.get 62=.int .i64 ((0:Nat):Int)->bH pP 51 τ' sv A->A.length<=1000000->M E st .normal ⟨152,F'⟩ τ' Q):Ax.R E (.region 12 (opsOf (cutAt [1,1,1,1,1,1,1,1,0,0] (aA Tryz.f9).code)) true) st ⟨152,F⟩ [.cells 51 [.bool x.1,.str x.2] true] Q:=by
 obtain⟨rv,lv,nv,rfl,hR,hL,hN⟩:=hw
 have hal:=nW hf
 obtain⟨n,v,σ',hcall,ow,kp⟩:=Wx (Z:=[.cells 51 [.bool x.1,.str x.2] true]) h hl hm hL.Qg.is (by omega)
 have hb:σ'[0]?=some (.cells 51 [.bool x.1,.str x.2] true):=kp 0 _ rfl
 have hq:((dV rs).take 20).length<=20:=by rw[bl];omega
 obtain⟨w',τ',ha',ow',sp,-,-⟩:=iB (m:=[x]) (new:=[row x]) (x:=.bT false [[.bool x.1,.str x.2]] true) hl.fO rfl hl.cL rfl (by decide) (xW hl) rfl ow rfl (.one rfl) (cZ (b:=21) (by decide) (by simp only[aa,bf];omega))
 have le:=λ(k:Nat)=>pM (Z:=τ') hl.fO rfl ow'.ls
 have vx:=Lb.vR x.1 x.2
 have le':=le 0
 have t1:bU false (V.bool x.1)=true:=rfl
 have t2:bU false (V.str x.2)=true:=rfl
 have key:∃F',bG E (ev E n) (opsOf (cutAt [1,1,1,1,1,1,1,1,0,0] (aA Tryz.f9).code)) ⟨152,F⟩ [.cells 51 [.bool x.1,.str x.2] true]=some (⟨152,F'⟩,τ')/\(∀k,k∈[0,9,10]->F'.get k=F.get k)/\F'.get 60=w'/\F'.get 61=.int .i64 ((((dV rs).take 20++[x]).length:Nat):Int)/\F'.get 62=.int .i64 ((0:Nat):Int):=by
  unfold bG
  rw[z12,Vp]
  simp only[aA,Tryz.f9,KP,Ax.loadAt,↓reduceIte,reduceEqDiff,reduceLT,reduceLeDiff,reduceAdd,reduceMul,reduceCtorEq,h.fO,h.cL,opsOf,cutAt,Fz.lits,Fz.apps,eJ,bB,bQ,iX,Ax.comp,Ax.last,dM,Ax.again,aS,rM,Ax.fill,fG,Ax.rows,fl,rg.nQ,g3,g10,hcall,hb,ha',le',vx,t1,t2]
  refine⟨_,rfl,λk hk=>?_,(by simp +decide only[GS,aj])⟩
  simp only[By,br,dz]at hk
  rcases hk with rfl | rfl | rfl <;> simp +decide only[GS]
 obtain⟨F',hD,hkp,q0,q1,q2⟩:=key
 exact Eq.mpr (fP hD) (hk F' τ' w' _ hkp q0 q1 q2 ow' (by rw[an];simp only[aa,bf];omega))
end
end
section
structure FwE (E:Env):Prop where
 mdS:E.mode 15=.shared
 z12:eL E (opsOf (cutAt [1,1,1,1,1,1,1,1,0,0] (aA Tryz.f9).code))=.lit
 Vp:cB E .lit (opsOf (cutAt [1,1,1,1,1,1,1,1,0,0] (aA Tryz.f9).code))=some [⟨4,5,true,false⟩]
section
variable {E:Env}{Z:Sg}{K:V->Sg->Prop}
theorem IY (h:bJ E)(h':qO E)(hl:Lb.cK E) (q:GV E) (rg:Eh E) (kn:Mp E) (ga:RD E) (fw:FwE E) {a:V}{rs:List aD}(ha:LS bS 46 Z a rs)(hraw:∀x∈rs,Raw x) (x:aJ):aC E 9 [a,.agg [.bool x.1,.str x.2]] Z K=K (.bool true) Z:=by
 refine aC.of ?_
 obtain⟨a',ea,ia⟩:=dQ h ha
 have ex:=rC (E:=E) Z x
 rw[aH ga.hs9 ga.Xb ga.fn9 ga.md9 (args':=[a',.agg [.bool x.1,.str x.2]]) (by simp only[aU,ea,ex]),aX (by kernel_rfl)]
 refine S0 h h' hl q rg kn ga ia hraw x _ (by simp +decide only[GS]) (by simp +decide only[GS]) (λF l rv g w hf irl hl14 hg hw g0 g3 g9 g10=>?_)
 rw[show (cutAt [1,1,1,1,1,1,1,1] (aA Tryz.f9).code)=.seq (.seq (.region 12 (opsOf (cutAt [1,1,1,1,1,1,1,1,0,0] (aA Tryz.f9).code)) true) (.block 0 (.loop (cutAt [1,1,1,1,1,1,1,1,0,1,2,2] (aA Tryz.f9).code)))) (cutAt [1,1,1,1,1,1,1,1,1] (aA Tryz.f9).code) from rfl,Lp,Lp]
 refine V5 h h' hl q rg kn ga fw.mdS fw.z12 fw.Vp hf hw F g3 g10 (λF2 τ2 sv A kp g60 g61 g62 on hA=>?_)
 rw[PU]
 refine SZ h h' hl q rg kn ga hf hg hw irl hA on F2 ((kp 0 (by decide)).trans g0) ((kp 9 (by decide)).trans g9) ((kp 10 (by decide)).trans g10) g60 g61 g62 (λF3 τ3=>?_)
 simp only[aA,Tryz.f9,KP,↓reduceIte,reduceLT,cutAt,bW,aQ]
 exact rfl
theorem Kw (h:bJ E)(h':qO E)(hl:Lb.cK E) (q:GV E) (rg:Eh E) (kn:Mp E) (ga:RD E) (fw:FwE E) {a:V}{rs:List aD}(ha:LS bS 46 Z a rs)(hraw:∀x∈rs,Raw x) {x1:Bool}{s1:bD}(h1:s1.length<=9223372036854775806):aC E 9 [a,.agg [.bool x1,.str s1]] Z K=K (.bool true) Z:=IY h h' hl q rg kn ga fw ha hraw (x1,s1)
end
end
end Go.Proofs.YtmbikbgdbbcbmaaGreatDoor
end
section
namespace Go.Proofs.YtmbikbgdbbcbmaaGreatDoor
open Go Go.Ax
theorem begL {Z:Sg}{K:V->Sg->Prop}:aC LE 11 [] Z K=K (.bool true) Z:=qC (s:=bM t11) (args':=[]) (v:=.bool true) (by kernel_rfl) (by kernel_rfl) rfl (by kernel_rfl) rfl
theorem Vy:bJ LE:=by constructor <;> kernel_rfl
theorem VB:qO LE:=by constructor <;> kernel_rfl
theorem Ss:Lb.cK LE:=by constructor <;> kernel_rfl
theorem VC:GV LE:=by constructor <;> kernel_rfl
theorem Vz:Eh LE:=by constructor <;> kernel_rfl
theorem VA:Mp LE:=by constructor <;> kernel_rfl
theorem VD:RD LE:=by constructor <;> first | kernel_rfl | exact begL
theorem VE:FwE LE:=by constructor <;> kernel_rfl
theorem Sv:bJ LE0:=by constructor <;> kernel_rfl
theorem Sw:T7 LE0:=by constructor <;> kernel_rfl
end Go.Proofs.YtmbikbgdbbcbmaaGreatDoor
end
section
namespace Go.Proofs.YtmbikbgdbbcbmaaGreatDoor
open Go Go.Ax Go.ChangeShapes Go.WideShapes Go.ChangeAt Go.RowKit
theorem RS:Xa.Ae (fL Tryz.prog (ground.env .nil)):=⟨⟨Ud,JI⟩,⟨JH,⟨JG,JF⟩⟩⟩
theorem Su:cQ Tryz.prog LE0:=zP.Ma _
theorem St:kT Tryz.prog LE0:=zP.L0 RS
theorem WJ:Ax.Alike LE0 (ground.env .nil):=⟨rfl,rfl⟩
theorem X5:fL Tryz.prog (ground.env .nil) 27 xN:=(MF Sv Sw Su St mixed).alike WJ
theorem UJ:spL.Ae (fL Tryz.prog (ground.env .nil)):=⟨⟨Ud,⟨X5,JI⟩⟩,⟨JH,⟨JG,JF⟩⟩⟩
theorem Rl {G:Ax.Ground Tryz.prog}(hG:mM G)(hgl:G.gl=E9) {s:BT (List V->Option V)}(hs:s.Ae (fL Tryz.prog (G.env .nil))) {n f:Nat}{vs:List V}{W:World}(hW:W.ShapedOpen Tryz.prog)(h:Ax.call (G.env s) n f vs=some (.bool true)) {xs:List Value}(hv:fM (wW W) vs xs) :
  Calls Tryz.prog f xs.toArray W λe W'=>e=.returned (.bool true)/\Below W.heap.size W W':=by
 refine (DL (hG.Ma s) (hG.L0 hs) mixed h (d:=wW W) rfl (UF hW hgl) hv).mono ?_
 rintro e w' ⟨x,d',rfl,rfl,h1,h2,h3,h4⟩
 have hx:=h4.gN
 subst hx
 exact⟨rfl,h2.os,h2.tape,h2.output,h2.size,λk hk=>(h2.keep k hk λ⟨b,⟨o,ho,_⟩,_⟩=>by cases ho).1⟩
end Go.Proofs.YtmbikbgdbbcbmaaGreatDoor
end
section
namespace Go.Proofs.YtmbikbgdbbcbmaaGreatDoor
open Go Go.Ax Go.AxS
theorem F7 (a0:V) (l0:List aD) (i0:IS bS a0 l0) (r0:∀x∈l0,Raw x) (x1:Bool) (s1:bD)(h1:s1.length<=9223372036854775806):∃k,Ax.call LE k 9 [a0,.agg [.bool x1,.str s1]]=some (.bool true):=by
 have h:aC LE 9 [a0,.agg [.bool x1,.str s1]] [] (λv _=>v=.bool true):=by
  rw[Kw Vy VB Ss VC Vz VA VD VE (i0.ls [] 46) r0 (x1:=x1) (s1:=s1) h1]
 obtain⟨n,v,σ',hc,rfl⟩:=h
 refine⟨n,?_⟩
 have hm:aU (aQ [] LE.ty true) [a0,.agg [.bool x1,.str s1]]=some [a0,.agg [.bool x1,.str s1]]:=by
  simp only[aU,oW i0 [],(show aQ [] LE.ty true (.agg [.bool x1,.str s1])=some (.agg [.bool x1,.str s1]) from rfl)]
 unfold gT at hc
 rw[show LE.hspec 9=none by kernel_rfl,show LE.spec 9=none by kernel_rfl,show LE.fn 9=some (aA Tryz.f9) by kernel_rfl,show LE.mode 9=.fD by kernel_rfl]at hc
 simp only[hm]at hc
 unfold Ax.call
 rw[show LE.fn 9=some (aA Tryz.f9) by kernel_rfl]
 dsimp only
 cases he:enter LE (ev LE n) (aA Tryz.f9) [a0,.agg [.bool x1,.str s1]] [] with
 |none=>rw[he]at hc;cases hc
 |some y=>
  rw[he]at hc
  dsimp only at hc ⊢
  cases hs:bW y.2 LE.ty false y.1 with
  |none=>rw[hs]at hc;cases hc
  |some z=>rw[hs]at hc;cases hc;rfl
end Go.Proofs.YtmbikbgdbbcbmaaGreatDoor
end
