/- Part 17 of the proof. -/
import Derived.Test.YtmbikbgdbbcbmaaGreatDoorY
import Derived.Test.YtmbikbgdbbcbmaaGreatDoorZ16
import Derived.Test.YtmbikbgdbbcbmaaGreatDoorZ3
import Derived.Test.YtmbikbgdbbcbmaaGreatDoorZ15
import Derived.KernelRfl
set_option maxHeartbeats 8000000
set_option linter.unusedVariables false
set_option maxRecDepth 10000
open Nat (reduceEqDiff reduceLT reduceAdd reduceLeDiff reduceMul)
open Int (reduceNeg)
section
namespace Go.Proofs.YtmbikbgdbbcbmaaGreatDoor
open Go Go.Ax Go.AxS
section
section
variable {E:Env}{Z:Sg}{K:V->Sg->Prop}
theorem zV {c:Code}{fr:Fr}{Q:Ax.X->Fr->Sg->Prop}(h:Ax.R E c [] fr Z Q):BR E c fr Z Q:=by
 obtain⟨n,x,fr',σ',h1,h2⟩:=h
 exact .run n x fr' σ' h1 h2
theorem abb:8+1<((opsOf (cutAt [1,1,0,1,2,2,1,0,2,0] (aA Tryz.f27).code))).size:=by
 have e:((opsOf (cutAt [1,1,0,1,2,2,1,0,2,0] (aA Tryz.f27).code))).size=12:=by kernel_rfl
 omega
theorem abd:∀o∈((opsOf (cutAt [1,1,0,1,2,2,1,0,2,0] (aA Tryz.f27).code))).toList,o.guard=none:=by
 have e:(((opsOf (cutAt [1,1,0,1,2,2,1,0,2,0] (aA Tryz.f27).code))).toList.all λo=>o.guard.isNone)=true:=by kernel_rfl
 exact λo ho=>Option.isNone_iff_eq_none.1 (dw.1 e o ho)
theorem abe:oJ 0 ((opsOf (cutAt [1,1,0,1,2,2,1,0,2,0] (aA Tryz.f27).code))).toList=true:=by kernel_rfl
theorem Tn (h:bJ E) (q:T7 E) {a b:V}{l m:List aD} (ia:IS bS a l) (ib:IS bS b m) {i:Nat}{x y:aD}(hi:i<l.length)(hl:l.length<=1000)(hx:l[i]?=some x)(hy:m[i]?=some y)(hsm:Small x) (F:FT) (g0:F.get 0=a) (g1:F.get 1=b) (g5:F.get 5=.int .i64 (i:Int)) :
  BR E (cutAt [1,1,0,1,2,2] (aA Tryz.f27).code) ⟨85,F⟩ Z λz fr _=>∃F,fr=⟨85,F⟩/\((z=.normal/\F.get 0=a/\F.get 1=b/\F.get 5=.int .i64 ((i+1:Nat):Int)/\jQ x y=true)\/(z=.ret/\F.get 4=.bool false/\jQ x y=false)):=by
 have la:=cI h ia
 have hlt:=eC hi
 have hadd:=bY i (by omega)
 show BR E (.seq (cutAt [1,1,0,1,2,2,0] (aA Tryz.f27).code) (.seq (.block 1 (.seq (.region 6 (opsOf (cutAt [1,1,0,1,2,2,1,0,2,0] (aA Tryz.f27).code)) true) (cutAt [1,1,0,1,2,2,1,0,2,1] (aA Tryz.f27).code))) (cutAt [1,1,0,1,2,2,1,1] (aA Tryz.f27).code))) _ _ _
 refine .seq (λz fr _=>z=.normal/\∃F',fr=⟨85,F'⟩/\F'.get 0=a/\F'.get 1=b/\F'.get 5=.int .i64 (i:Int)) (zV ?_) (λz fr U hz hn=>absurd hz.1 hn) ?_
 ·simp only[aA,Tryz.f27,KP,↓reduceIte,reduceEqDiff,reduceLT,reduceCtorEq,cutAt,g0,g5,la,hlt]
  exact⟨_,rfl,(by simp +decide only[GS,g0,g1,g5,aj])⟩
 ·rintro fr U ⟨-,F',rfl,p0,p1,p5⟩
  refine .seq (λz fr _=>RA a b i x y z fr) (.block (λz fr _=>RA a b i x y z fr) (.seq (λz fr U=>z=.normal/\∃F2,fr=⟨85,F2⟩/\T9 F' x y F2 U) ?_ (λz fr U hz hn=>absurd hz.1 hn) ?_) (λz fr U hz _=>hz) ?_) ?_ ?_
  ·obtain⟨⟨Fa,τa,ha,ba⟩,⟨Fb,τb,hb,bb⟩⟩:=abc (n:=0) (Z:=U) h q ia ib hx hy F' p0 p1 p5
   exact Tq 0 8 .no (⟨85,Fa⟩,τa) (⟨85,Fb⟩,τb) abb abd abe q.zA q.zB ha hb ⟨rfl,Fa,rfl,ba⟩ ⟨rfl,Fb,rfl,bb⟩
  ·rintro fr τ' ⟨-,F2,rfl,bx⟩
   exact zV (Tm h q hsm p0 p1 p5 bx)
  ·rintro fr U ⟨F,rfl,⟨e,-⟩ | ⟨e,-⟩⟩ <;> cases e
  ·rintro z fr U ⟨F,rfl,⟨e,-⟩ | ⟨e,k1,k2⟩⟩ hn
   ·exact absurd e hn
   ·exact⟨F,rfl,.inr ⟨e,k1,k2⟩⟩
  ·rintro fr U ⟨F2,rfl,⟨-,k0,k1,k5,ke⟩ | ⟨e,-⟩⟩
   ·refine zV ?_
    simp only[aA,Tryz.f27,KP,↓reduceIte,reduceLT,reduceCtorEq,cutAt,k5,hadd]
    exact⟨_,rfl,.inl (gE (by simp +decide only[GS,k0,k1,aj]) ke)⟩
   ·cases e
theorem L_ (h:bJ E) (q:T7 E) {a b:V}{l m:List aD} (ia:IS bS a l) (ib:IS bS b m)(hl:l.length<=1000)(hlm:l.length=m.length)(hsm:∀x∈l,Small x):∀(k i:Nat) (F:FT) (Z:Sg),i+k=l.length->F.get 0=a->F.get 1=b->F.get 5=.int .i64 (i:Int)->(∀(j:Nat) (x y:aD),j<i->l[j]?=some x->m[j]?=some y->jQ x y=true) ->
  BR E (.loop (cutAt [1,1,0,1,2,2] (aA Tryz.f27).code)) ⟨85,F⟩ Z λz fr _=>∃F,fr=⟨85,F⟩/\((z=.exit 0/\kN l m=true)\/(z=.ret/\F.get 4=.bool false/\kN l m=false))
 |0,i,F,Z,hk,g0,g1,g5,hall=>by
  have la:=cI h ia
  have hlt:decide ((i:Int)<(l.length:Int))=false:=AI (by omega)
  refine zV ?_
  rw[aF]
  simp only[aA,Tryz.f27,KP,↓reduceIte,reduceEqDiff,reduceLT,reduceCtorEq,cutAt,g0,g5,la,hlt]
  exact⟨_,rfl,.inl (by rw[kN,AT hlm,iz];exact FH (p:=jQ) λj x y hx hy=>hall j x y (by have:=(AS.1 hx).1;omega) hx hy)⟩
 |k+1,i,F,Z,hk,g0,g1,g5,hall=>by
  obtain⟨x,hx⟩:∃x,l[i]?=some x:=⟨_,BY (by omega)⟩
  obtain⟨y,hy⟩:∃y,m[i]?=some y:=⟨_,BY (by omega)⟩
  refine .loop _ (Tn h q ia ib (by omega) hl hx hy (hsm x (af hx)) F g0 g1 g5) ?_ ?_
  ·rintro z fr U ⟨F,rfl,⟨e,-⟩ | ⟨e,k1,k2⟩⟩ hn
   ·exact absurd e hn
   ·exact⟨F,rfl,.inr ⟨e,k1,by rw[kN,FG (p:=jQ) hx hy k2,Bool.and_false]⟩⟩
  ·rintro fr U ⟨F2,rfl,⟨-,k0,k1,k5,ke⟩ | ⟨e,-⟩⟩
   ·refine L_ h q ia ib hl hlm hsm k (i+1) F2 U (by omega) k0 k1 k5 λj x' y' hj hx' hy'=>?_
    rcases cj j i with g | g
    ·exact hall j x' y' g hx' hy'
    ·obtain rfl:j=i:=by omega
     rw[hx]at hx';rw[hy]at hy';cases hx';cases hy';exact ke
   ·cases e
theorem V8 (h:bJ E) (q:T7 E) {a b:V}{l m:List aD} (ia:IS bS a l) (ib:IS bS b m)(hl:l.length<=1000)(hsm:∀x∈l,Small x) (F:FT) (g0:F.get 0=a) (g1:F.get 1=b) :
  BR E (aA Tryz.f27).code ⟨85,F⟩ Z λz fr _=>(z=.normal\/z=.ret)/\∃F,fr=⟨85,F⟩/\F.get 4=.bool (kN l m):=by
 have la:=cI h ia
 have lb:=cI h ib
 by_cases hlm:l.length=m.length
 ·have hd:decide ((l.length:Int)=(m.length:Int))=true:=AT (by omega)
  show BR E (.seq (cutAt [0] (aA Tryz.f27).code) (.seq (cutAt [1,0] (aA Tryz.f27).code) (.seq (.seq (cutAt [1,1,0,0] (aA Tryz.f27).code) (.block 0 (.loop (cutAt [1,1,0,1,2,2] (aA Tryz.f27).code)))) (cutAt [1,1,1] (aA Tryz.f27).code)))) _ _ _
  refine .seq (λz fr _=>z=.normal/\∃F',fr=⟨85,F'⟩/\F'.get 0=a/\F'.get 1=b) (zV ?_) (λz fr U hz hn=>absurd hz.1 hn) ?_
  ·simp only[aA,Tryz.f27,KP,↓reduceIte,reduceLT,cutAt]
   exact⟨_,rfl,(by simp +decide only[GS,g0,g1,aj])⟩
  ·rintro fr U ⟨-,F1,rfl,g0,g1⟩
   refine .seq (λz fr _=>z=.normal/\∃F',fr=⟨85,F'⟩/\F'.get 0=a/\F'.get 1=b) (zV ?_) (λz fr U hz hn=>absurd hz.1 hn) ?_
   ·simp only[aA,Tryz.f27,KP,↓reduceIte,reduceEqDiff,reduceLT,cutAt,g0,g1,la,lb,hd]
    exact⟨_,rfl,(by simp +decide only[GS,g0,g1,aj])⟩
   ·rintro fr U ⟨-,F2,rfl,g0,g1⟩
    refine .seq (λz fr _=>∃F,fr=⟨85,F⟩/\((z=.normal/\kN l m=true)\/(z=.ret/\F.get 4=.bool false/\kN l m=false))) (.seq (λz fr _=>z=.normal/\∃F',fr=⟨85,F'⟩/\F'.get 0=a/\F'.get 1=b/\F'.get 5=.int .i64 ((0:Nat):Int)) (zV ?_) (λz fr U hz hn=>absurd hz.1 hn) ?_) ?_ ?_
    ·simp only[aA,Tryz.f27,KP,↓reduceIte,reduceLT,cutAt]
     exact⟨_,rfl,(by simp +decide only[GS,g0,g1,aj])⟩
    ·rintro fr U ⟨-,F3,rfl,g0,g1,g5⟩
     refine .block _ (L_ h q ia ib hl hlm hsm l.length 0 F3 U (by omega) g0 g1 g5 λj x y hj=>by omega) ?_ ?_
     ·rintro z fr U ⟨F,rfl,⟨e,-⟩ | ⟨e,k1,k2⟩⟩ hn
      ·exact absurd e hn
      ·exact⟨F,rfl,.inr ⟨e,k1,k2⟩⟩
     ·rintro fr U ⟨F,rfl,⟨-,k⟩ | ⟨e,-⟩⟩
      ·exact⟨F,rfl,.inl ⟨rfl,k⟩⟩
      ·cases e
    ·rintro z fr U ⟨F,rfl,⟨e,-⟩ | ⟨e,k1,k2⟩⟩ hn
     ·exact absurd e hn
     ·exact⟨.inr e,F,rfl,by rw[k1,k2]⟩
    ·rintro fr U ⟨F,rfl,⟨-,k⟩ | ⟨e,-⟩⟩
     ·refine zV ?_
      simp only[aA,Tryz.f27,KP,↓reduceIte,reduceLT,reduceCtorEq,cutAt]
      exact⟨.inr trivial,_,rfl,by rw[k];exact (by simp +decide only[GS])⟩
     ·cases e
 ·have hd:decide ((l.length:Int)=(m.length:Int))=false:=AI (by omega)
  refine zV ?_
  simp only[aA,Tryz.f27,KP,↓reduceIte,reduceEqDiff,reduceLT,reduceCtorEq,g0,g1,la,lb,hd]
  exact⟨.inr trivial,_,rfl,by rw[kN,AI hlm,mj];exact (by simp +decide only[GS])⟩
end
end
section
section
variable {E:Env}{Z:Sg}{K:V->Sg->Prop}
theorem Qy {c:Code}{fr:Fr}{Q:Ax.X->Fr->Sg->Prop}(h:BR E c fr Z Q):∀{Q':Ax.X->Fr->Sg->Prop},(∀x fr Z,Q x fr Z->Q' x fr Z)->BR E c fr Z Q':=by
 induction h with
 |run n x fr' σ' h1 h2=>exact λhq=>.run n x fr' σ' h1 (hq _ _ _ h2)
 |seq Q1 h1 h2 h3 ih1 ih3=>exact λhq=>.seq Q1 h1 (λx fr Z k1 k2=>hq _ _ _ (h2 x fr Z k1 k2)) λfr Z k=>ih3 fr Z k hq
 |yes hx _ ih=>exact λhq=>.yes hx (ih hq)
 |no hx _ ih=>exact λhq=>.no hx (ih hq)
 |block Q1 h1 h2 h3 ih1=>exact λhq=>.block Q1 h1 (λx fr Z k1 k2=>hq _ _ _ (h2 x fr Z k1 k2)) λfr Z k=>hq _ _ _ (h3 fr Z k)
 |loop Q1 h1 h2 h3 ih1 ih3=>exact λhq=>.loop Q1 h1 (λx fr Z k1 k2=>hq _ _ _ (h2 x fr Z k1 k2)) λfr Z k=>ih3 fr Z k hq
 |drawn n frz S h1 h2=>exact λhq=>.drawn n frz S h1 λr hr=>hq _ _ _ (h2 r hr)
theorem Nq {n:Nat}{args:List V}(h:Nat.ble args.length n=true):Fr.init n args=some ⟨n,FT.fill .leaf 0 args⟩:=by
 unfold Fr.init
 rw[h]
 dsimp only
 rw[fill_eq _ _ _ (by rw[cz];exact je h)]
theorem Rv {α:Type}{P:List V->α->Prop}(hp:∀r x y,P r x->P r y->x=y):∀{rs:List (List V)}{l m:List α},dS P rs l->dS P rs m->l=m:=by
 intro rs
 induction rs with
 |nil=>intro l m h1 h2;cases h1;cases h2;rfl
 |cons r rs ih=>
  intro l m h1 h2
  cases h1 with
  |cons a1 a2=>cases h2 with
   |cons b1 b2=>rw[hp _ _ _ a1 b1,ih a2 b2]
theorem vC {α:Type}{L:Lay α}(hp:∀r x y,L.P r x->L.P r y->x=y) {v:V}{l m:List α}(h1:IS L v l)(h2:IS L v m):l=m:=by
 rcases h1 with⟨rfl,rfl⟩ | ⟨g,rs,f,rfl,a1⟩
 ·rcases h2 with⟨-,rfl⟩ | ⟨g,rs,f,e,-⟩
  ·rfl
  ·cases e
 ·rcases h2 with⟨e,-⟩ | ⟨g',rs',f',e,a2⟩
  ·cases e
  ·cases e
   exact Rv hp a1 a2
theorem str_inj:∀r x y,aM.P r x->aM.P r y->x=y:=λr x y h1 h2=>by
 have e:[V.str x]=[V.str y]:=Eq.trans (Eq.symm h1) h2
 cases e;rfl
theorem Oy:∀r x y,eK.P r x->eK.P r y->x=y:=λr x y h1 h2=>by
 obtain⟨a,b,rfl,h3,h4⟩:=h1
 obtain⟨a',b',e,h5,h6⟩:=h2
 obtain⟨x1,x2,x3,x4,x5⟩:=x
 obtain⟨y1,y2,y3,y4,y5⟩:=y
 dsimp only at e h3 h4 h5 h6
 injection e with e1 e;injection e with e2 e;injection e with e3 e;injection e with e4 e;injection e with e5 e
 injection e1 with e1;injection e2 with _ e2;injection e5 with _ e5
 subst e1 e2 e3 e4 e5
 rw[vC str_inj h3 h5,vC str_inj h4 h6]
theorem Hy:∀r x y,bS.P r x->bS.P r y->x=y:=λr x y h1 h2=>by
 obtain⟨a,b,c,d,rfl,h3,h4,h5,h6⟩:=h1
 obtain⟨a',b',c',d',e,k3,k4,k5,k6⟩:=h2
 obtain⟨x1,x2,x3,x4,x5⟩:=x
 obtain⟨y1,y2,y3,y4,y5⟩:=y
 dsimp only at e h3 h4 h5 h6 k3 k4 k5 k6
 injection e with e1 e;injection e with e2 e;injection e with e3 e;injection e with e4 e;injection e with e5 e
 injection e1 with e1
 subst e1 e2 e3 e4 e5
 rw[vC str_inj h3 k3,vC str_inj h4 k4,vC str_inj h5 k5,vC Oy h6 k6]
def yK (vs:List V) (p:List aD × List aD):Prop:=∃a b,vs=[a,b]/\IS bS a p.1/\IS bS b p.2/\(∀x∈p.1,Small x)/\p.1.length<=1000
theorem yK.inj {vs:List V}{p r:List aD × List aD}(h1:yK vs p)(h2:yK vs r):p=r:=by
 obtain⟨a,b,rfl,k1,k2,-⟩:=h1
 obtain⟨a',b',e,m1,m2,-⟩:=h2
 injection e with e1 e;injection e with e2 e
 subst e1 e2
 exact Prod.ext (vC Hy k1 m1) (vC Hy k2 m2)
open Classical in
noncomputable def xN (vs:List V):Option V:=if h:∃p,yK vs p then some (.bool (kN (Classical.choose h).1 (Classical.choose h).2)) else none
theorem MG {a b:V}{l m:List aD} (ia:IS bS a l) (ib:IS bS b m)(hs:∀x∈l,Small x)(hl:l.length<=1000):xN [a,b]=some (.bool (kN l m)):=by
 have hx:yK [a,b] (l,m):=⟨a,b,rfl,ia,ib,hs,hl⟩
 have h:∃p,yK [a,b] p:=⟨_,hx⟩
 unfold xN
 rw[dif_pos h,yK.inj (Classical.choose_spec h) hx]
theorem MF (h:bJ E) (q:T7 E)(he:cQ Tryz.prog E)(hfs:kT Tryz.prog E)(hmix:Tryz.prog.follows .mixedOrders=true):fL Tryz.prog E 27 xN:=by
 refine Hh he hfs hmix q.fn27 λvs v hv=>?_
 unfold xN at hv
 split at hv
 case isFalse=>cases hv
 rename_i hx
 injection hv with hv
 subst hv
 generalize Classical.choose hx=p,Classical.choose_spec hx=hp
 obtain⟨a,b,rfl,k1,k2,k3,k4⟩:=hp
 refine⟨_,Nq (by kernel_rfl),Qy (V8 (Z:=[]) h q k1 k2 k4 k3 _ (by simp +decide only[GS]) (by simp +decide only[GS])) ?_⟩
 rintro x fr Z ⟨hx,F,rfl,g4⟩
 refine⟨hx,[.bool (kN p.1 p.2)],?_,rfl⟩
 simp only[aA,Tryz.f27,KP,↓reduceIte,reduceLT,g4]
end
end
end Go.Proofs.YtmbikbgdbbcbmaaGreatDoor
end
section
namespace Go.Proofs.YtmbikbgdbbcbmaaGreatDoor
open Go Go.Ax
noncomputable def Xa:BT (List V->Option V):=(.node 185 (.node 159 (.leaf 11 (bM t11)) (.leaf 159 nR)) (.node 267 (.leaf 185 kH) (.node 308 (.leaf 267 jD) (.leaf 308 vV))))
noncomputable def LE0:Env:=ground.env Xa
noncomputable def spL:BT (List V->Option V):=(.node 185 (.node 27 (.leaf 11 (bM t11)) (.node 159 (.leaf 27 xN) (.leaf 159 nR))) (.node 267 (.leaf 185 kH) (.node 308 (.leaf 267 jD) (.leaf 308 vV))))
noncomputable def LE:Env:=ground.env spL
end Go.Proofs.YtmbikbgdbbcbmaaGreatDoor
end
section
namespace Go.Proofs.YtmbikbgdbbcbmaaGreatDoor
open Go Go.Ax Go.AxS
section
section
variable {E:Env}{Z:Sg}{K:V->Sg->Prop}
theorem Js (m b o n:Nat):oO (m+1) (.sl b o n none) (.sl b o n none)=true:=by
 show (decide (b=b)&&decide (o=o)&&decide (n=n))=true
 simp
theorem KS (h:bJ E) {U:Sg}{b:Nat}{ex:Bool}{rs:List (List V)}(hl:∀r∈rs,r.length=5)(hb:U[b]?=some (.cells 82 rs.flatten ex)) {i:Nat}{r:List V}(hr:rs[i]?=some r) {k:Nat}(hk:k<5) {u:V}(hu:Ax.bF u=true) :
  storeAt E U 24 (.ref b (i*5+k)) u=some (U.set b (.cells 82 (rs.set i (r.set k u)).flatten ex)):=by
 have hil:=(AS.1 hr).1
 have hfl:rs.flatten.length=rs.length*5:=lS rs hl
 unfold storeAt
 simp only[h.aY,hb]
 rw[jK hu,b8 (by simp only[aa,bf,ig,jm,aL hu,mg,ah,IT];exact⟨rfl,by omega⟩),O8 hl hr hk]
theorem LI (h:bJ E) {U:Sg}{b:Nat}{ex:Bool}{rs:List (List V)}(hl:∀r∈rs,r.length=5)(hb:U[b]?=some (.cells 82 rs.flatten ex)) {i:Nat}{r:List V}(hr:rs[i]?=some r) {k:Nat}(hk:k<5) {u:V}(hu:r[k]?=some u):loadAt E U 24 (.ref b (i*5+k))=some u:=by
 unfold loadAt
 simp only[h.aY,hb,Ax.isAgg,ai,aq]
 rw[pU rs hl i r hr k hk,hu]
theorem PW (h:bJ E) {l:List AxS.Step}{s:AxS.Step}{nm:bD}{a' b' c' w:V}{U:Sg}{i:Nat}(hi:l[i]?=some s) (x0:U[2]?=some (O.cells 46 [.str nm,a',b',c',w] true)) (ow:bH fE 82 U w l) (F:FT) (g1:F.get 2=.ref 1 0) (g3:F.get 3=.ref 2 0) (g4:F.get 4=.int .i64 (i:Int)) {st:List iW}{Q:Ax.X->Fr->Sg->Prop}
  (hk:∀F' τ',(∀k,k<44->F'.get k=F.get k)->bH fE 82 τ' w (l.set i (BN s))->Sp U τ' w->M E st .normal ⟨86,F'⟩ τ' Q):R E (.region 6 (opsOf (cutAt [1,1,1,0,1,2,2,1,1,0,2,1] (aA Tryz.f110).code)) true) st ⟨86,F⟩ U Q:=by
 have hil:=(AS.1 hi).1
 rcases ow with⟨rfl,rfl⟩ | ⟨b,rs,ex,rfl,hb,ha⟩
 ·cases hi
 obtain⟨r,hr,hP⟩:=ha.get i s hi
 obtain⟨p,q,rfl,ip,iq⟩:=hP
 have hls:=Lay.lens ha
 have hls:∀r∈rs,r.length=5:=hls
 obtain⟨p1,e1,ip1⟩:=Fm h ip 8
 obtain⟨q1,e2,iq1⟩:=Fm h iq 3
 have lp:=bP h ip.is
 have lq:=bP h iq.is
 have m1:=EX s.args.length 8
 have m2:=EX s.lits.length 3
 have m1:jM false .i64 (s.args.length:Int) [.int .i64 8]=some ((min s.args.length 8:Nat):Int):=m1
 have m2:jM false .i64 (s.lits.length:Int) [.int .i64 3]=some ((min s.lits.length 3:Nat):Int):=m2
 have ix:indexAddr E 44 (.sl b 0 l.length none) (.int .i64 (i:Int))=some (.ref b (i*5)):=by
  have hneg:¬ ((i:Int)<0):=by omega
  unfold indexAddr
  simp only[hneg,aq,h.fN,h.cN,dj,hil,b9,cz]
 have d1:=LI h hls hb hr (k:=2) (by omega) (u:=p) rfl
 have d2:=LI h hls hb hr (k:=3) (by omega) (u:=q) rfl
 have s1:=KS h hls hb hr (k:=2) (by omega) (u:=p1) ip1.is.bF
 have hbl:=(AS.1 hb).1
 have hrl:=(AS.1 hr).1
 have hr1:(rs.set i [.str s.out,.int .i64 s.op,p1,q,.int .i64 s.n])[i]?=some [.str s.out,.int .i64 s.op,p1,q,.int .i64 s.n]:=bp hrl
 have ha1:dS fE.P (rs.set i [.str s.out,.int .i64 s.op,p1,q,.int .i64 s.n]) (l.set i { s with args:=s.args.take 8 }):=ha.set (y:={ s with args:=s.args.take 8 }) ⟨p1,q,rfl,ip1,iq⟩ i
 have hls1:∀r∈rs.set i [.str s.out,.int .i64 s.op,p1,q,.int .i64 s.n],r.length=5:=Lay.lens ha1
 have s1:storeAt E U 24 (.ref b (i*5+2)) p1=some (U.set b (.cells 82 (rs.set i [.str s.out,.int .i64 s.op,p1,q,.int .i64 s.n]).flatten ex)):=s1
 have hb1:(U.set b (.cells 82 (rs.set i [.str s.out,.int .i64 s.op,p1,q,.int .i64 s.n]).flatten ex))[b]?=some (.cells 82 (rs.set i [.str s.out,.int .i64 s.op,p1,q,.int .i64 s.n]).flatten ex):=vX hb
 have s2:=KS h hls1 hb1 hr1 (k:=3) (by omega) (u:=q1) iq1.is.bF
 have hb2:b≠2:=λe=>by subst e;rw[hb]at x0;cases x0
 have x1:(U.set b (.cells 82 (rs.set i [.str s.out,.int .i64 s.op,p1,q,.int .i64 s.n]).flatten ex))[2]?=some (O.cells 46 [.str nm,a',b',c',.sl b 0 l.length none] true):=qQ x0 hb2
 have ldx:∀U:Sg,U[2]?=some (O.cells 46 [.str nm,a',b',c',.sl b 0 l.length none] true)->loadAt E U 44 (.ref 2 4)=some (.sl b 0 l.length none):=λU hx=>by
  unfold loadAt
  simp only[h.fN,hx,Ax.isAgg,ai,aq]
  rfl
 have w0:=ldx _ x0
 have w1:=ldx _ x1
 have v1:=Js 11 b 0 l.length
 have v2:=λk i=>KN 11 k i
 have v3:=bV 10 iq1.is
 generalize hτ1:U.set b (.cells 82 (rs.set i [.str s.out,.int .i64 s.op,p1,q,.int .i64 s.n]).flatten ex)=τ1 at *
 have key:∃F',bG E (ev E 0) (opsOf (cutAt [1,1,1,0,1,2,2,1,1,0,2,1] (aA Tryz.f110).code)) ⟨86,F⟩ U=some (⟨86,F'⟩,τ1.set b (.cells 82 ((rs.set i [.str s.out,.int .i64 s.op,p1,q,.int .i64 s.n]).set i ([V.str s.out,.int .i64 s.op,p1,q,.int .i64 s.n].set 3 q1)).flatten ex))/\∀k,k<44->F'.get k=F.get k:=by
  unfold bG
  rw[h.Ux,h.Vq]
  simp only[aA,Tryz.f110,KP,↓reduceIte,reduceEqDiff,reduceLT,reduceAdd,reduceCtorEq,h.aY,h.fN,h.bC,h.cN,opsOf,cutAt,eJ,bB,bQ,iX,Ax.comp,Ax.last,dM,Ax.again,aS,g3,g4,w0,w1,ix,d1,d2,lp,lq,m1,m2,e1,e2,s1,s2,v1,v2,v3]
  refine⟨_,rfl,λk hk=>?_⟩
  simp only[FT.dJ]
  repeat rw[ay (by omega)]
 obtain⟨F',hE,hF⟩:=key
 refine Eq.mpr (fP hE) (hk F' _ hF ?_ ?_)
 ·have hn:(l.set i (BN s)).length=l.length:=fc
  refine .inr ⟨b,_,ex,by rw[hn],vX hb1,?_⟩
  rw[List.set_set]
  exact ha.set (y:=BN s) ⟨p1,q1,rfl,ip1,iq1⟩ i
 ·intro c o e hne
  have hcb:b≠c:=λe2=>hne (by rw[e2];rfl)
  rw[<- hτ1,List.set_set,OF hcb];exact e
theorem Gj {l:List AxS.Step}{i:Nat}{s:AxS.Step}(hi:l[i]?=some s):((l.take i).map BN++l.drop i).set i (BN s)=(l.take (i+1)).map BN++l.drop (i+1):=by
 have hil:=(AS.1 hi).1
 have h1:((l.take i).map BN).length=i:=by rw[az,bl];omega
 rw[mc _ _ (by omega),h1,ju,List.drop_eq_getElem_cons hil,jk,dh,hi]
 simp
theorem NW (h:bJ E) {v:V}{x:aD}(hv:I9 v x)(hx:Raw x):aC E 110 [v] Z λv' σ'=>σ'=Z/\∃a b c d,v'=.agg [.str x.name,a,b,c,d]/\iO aM a (cut x).ins/\iO aM b (cut x).outs/\iO aM c (cut x).after/\iO fE d (cut x).steps:=by
 have ev:=hv.snap (E:=E) Z
 obtain⟨a,b,c,d,rfl,ia,ib,ic,id⟩:=hv
 rw[aH h.aag h.XS h.aa2 h.Zm (args':=[.agg [.str x.name,a,b,c,d]]) (by simp only[aU,ev]),aX (by kernel_rfl)]
 have ha:=aL ia.bF
 have hb:=aL ib.bF
 have hc:=aL ic.bF
 have hd:=aL id.bF
 simp only[aA,Tryz.f110,KP,↓reduceIte,reduceLT,reduceAdd,h.bC,ha,hb,hc,hd]
 refine PX h ia ib ic id _ ?_ ?_ ?_
 ·exact (by simp +decide only[GS])
 ·exact (by simp +decide only[GS])
 intro F1 a1 b1 c1 d1 g1 g2 g3 i1 i2 i3 i4
 simp only[KP,Ax.loadAt,↓reduceIte,reduceLT,reduceAdd,h.bC,g3]
 refine aO (Rc h (x:=rT x) ⟨a1,b1,c1,d1,rfl,i1,i2,i3,i4⟩ hx.mid) ?_
 rintro v1 U ⟨⟨a2,b2,c2,w,rfl,j1,j2,j3,ow,hw⟩,kp⟩
 have o1:=aL j1.is.bF
 have o2:=aL j2.is.bF
 have o3:=aL j3.is.bF
 obtain⟨hc1,hc2⟩:=rG ow
 have z0:U[1]?=some (O.cells 46 [.str [],.aB,.aB,.aB,.aB] true):=kp 1 _ rfl
 have x0:=kp 2 _ (show ([O.cells 46 [.str x.name,a,b,c,d] true,O.cells 46 [.str [],.aB,.aB,.aB,.aB] true,O.cells 46 [.str x.name,a1,b1,c1,d1] true]:Sg)[2]?=_ from rfl)
 have hw3:∀k,aZ w=some k->3<=k:=hw
 have x1:=vX (x:=O.cells 46 [.str x.name,a2,b2,c2,w] true) x0
 have z1:=qQ (x:=O.cells 46 [.str x.name,a2,b2,c2,w] true) z0 (show (2:Nat)≠1 by omega)
 have ow1:bH fE 82 (U.set 2 (O.cells 46 [.str x.name,a2,b2,c2,w] true)) w (rT x).steps:=ow.keep λk o hk ho=>qQ ho (λe=>by have:=hw3 k hk;omega)
 have nm0:(rT x).name=x.name:=rfl
 have lw:∀l:List AxS.Step,l.length=(rT x).steps.length->∀Z,bH fE 82 Z w l->lenOf E Z 44 w=some (rT x).steps.length:=λl hl Z o=>by rw[<- hl];exact pM h.fN rfl o.ls
 have lw1:=lw _ rfl _ ow1
 simp only[KP,Ax.loadAt,Ax.storeAt,↓reduceIte,reduceEqDiff,reduceLT,reduceAdd,reduceCtorEq,h.fN,h.bC,g3,nm0,x0,x1,lw1,o1,o2,o3,hc2]
 generalize U.set 2 (O.cells 46 [.str x.name,a2,b2,c2,w] true)=U at *
 refine aV (λi F U=>U[1]?=some (O.cells 46 [.str [],.aB,.aB,.aB,.aB] true)/\U[2]?=some (O.cells 46 [.str x.name,a2,b2,c2,w] true)/\bH fE 82 U w (((rT x).steps.take i).map BN++(rT x).steps.drop i)/\F.get 2=.ref 1 0/\F.get 3=.ref 2 0/\F.get 40=.int .i64 ((rT x).steps.length:Int)/\F.get 41=.int .i64 (i:Int)) (rT x).steps.length ?_ ?_ (rT x).steps.length 0 _ _ (by omega) ⟨z1,x1,by simpa using ow1,(by simp +decide only[GS,g2,g3,aj])⟩
 ·rintro i F U hi ⟨z0,x0,ow,g2,g3,g40,g41⟩ next
  obtain⟨s,hst⟩:∃y,(rT x).steps[i]?=some y:=⟨_,BY hi⟩
  have hlt:=eC hi
  have hsz:(rT x).steps.length<=14:=by show (x.steps.take 14).length<=14;rw[bl];omega
  have hadd:=bY i (by omega)
  have hli:(((rT x).steps.take i).map BN++(rT x).steps.drop i)[i]?=some s:=by
   rw[ck (by rw[az,bl];omega),az,bl,show i-min i (rT x).steps.length=0 by omega,me,kj,hst]
  rw[aF]
  simp only[KP,↓reduceIte,reduceEqDiff,reduceLT,g40,g41,hlt]
  refine PW h hli x0 ow _ ?_ ?_ ?_ ?_
  ·exact (by simp +decide only[GS,g2])
  ·exact (by simp +decide only[GS,g3])
  ·exact (by simp +decide only[GS])
  intro F2 τ2 hF ow2 sp
  have k2:F2.get 2=.ref 1 0:=by rw[hF 2 (by omega)];exact (by simp +decide only[GS,g2])
  have k3:F2.get 3=.ref 2 0:=by rw[hF 3 (by omega)];exact (by simp +decide only[GS,g3])
  have k40:F2.get 40=.int .i64 ((rT x).steps.length:Int):=by rw[hF 40 (by omega)];exact (by simp +decide only[GS,g40])
  have k41:F2.get 41=.int .i64 (i:Int):=by rw[hF 41 (by omega)];exact (by simp +decide only[GS,g41])
  simp only[KP,↓reduceIte,reduceLT,k41,hadd]
  rw[Gj hst]at ow2
  exact next _ _ ⟨sp _ _ z0 (uN z0 (by decide) ow),sp _ _ x0 (uN x0 (by decide) ow),ow2,(by simp +decide only[GS,k2,k3,k40,aj])⟩
 ·rintro F U ⟨z0,x0,ow,g2,g3,g40,g41⟩
  have hlt:=eG (bg (rT x).steps.length)
  rw[ak (ae _),ja (ae _),fh]at ow
  have hne:=uN z0 (show 46≠82 by decide) ow
  have zz:=vX (x:=O.cells 46 [.str x.name,a2,b2,c2,w] true) z0
  have ow3:bH fE 82 (U.set 1 (O.cells 46 [.str x.name,a2,b2,c2,w] true)) w ((rT x).steps.map BN):=ow.keep λk o hk ho=>qQ ho (λe=>by rw[<- e]at hk;exact hne hk)
  rw[aF]
  simp only[KP,Ax.loadAt,Ax.storeAt,↓reduceIte,reduceEqDiff,reduceLT,reduceAdd,h.bC,g2,g3,g40,g41,hlt,x0,z0,zz,o1,o2,o3,hc2]
  generalize U.set 1 (O.cells 46 [.str x.name,a2,b2,c2,w] true)=U at *
  obtain⟨d',e1,id'⟩:=oV h.cN rfl Ct ow3
  have one:∀{u:V},Ax.bF u=true->bU false u=true->aQ.one U E.ty false u=some u:=λ{u} h1 h2=>by
   have h3:=cU (Z:=U) (ty:=E.ty) (g:=false) h1 h2
   cases u <;> first | exact h3 | cases h1
  have oned:aQ.one U E.ty false w=some d':=by
   rcases ow3 with⟨rfl,-⟩ | ⟨b,rs,ex,rfl,-⟩
   ·exact e1
   ·exact e1
  have hsn:bW U E.ty false (.agg [.str x.name,a2,b2,c2,w])=some (.agg [.str x.name,a2,b2,c2,d']):=by
   show (match aU (aQ.one U E.ty false) [.str x.name,a2,b2,c2,w] with
    |some l=>some (V.agg l)
    |none=>none)=_
   simp only[aU,one (u:=.str x.name) rfl rfl,one j1.is.bF j1.tag,one j2.is.bF j2.tag,one j3.is.bF j3.tag,oned]
  rw[hsn]
  exact⟨a2,b2,c2,d',rfl,j1,j2,j3,id'⟩
end
end
section
section
variable {E:Env}{Z:Sg}{K:V->Sg->Prop}
def jY:Lay aD:=⟨λr x=>∃a b c d,r=[.str x.name,a,b,c,d]/\iO aM a x.ins/\iO aM b x.outs/\iO aM c x.after/\iO fE d x.steps,5,λ_ _ ⟨_,_,_,_,h,_⟩=>by rw[h];rfl,λ_ _ ⟨a,b,c,d,h,h1,h2,h3,h4⟩ k hk=>by
 rw[h]at hk
 simp only[By,br,dz]at hk
 rcases hk with rfl | rfl | rfl | rfl | rfl
 ·rfl
 ·exact h1.is.bF
 ·exact h2.is.bF
 ·exact h3.is.bF
 ·exact h4.is.bF⟩
theorem CH:∀r x,jY.P r x->∀k∈r,bU false k=true:=λr x ⟨a,b,c,d,h,h1,h2,h3,h4⟩ k hk=>by
 rw[h]at hk
 simp only[By,br,dz]at hk
 rcases hk with rfl | rfl | rfl | rfl | rfl
 ·rfl
 ·exact h1.tag
 ·exact h2.tag
 ·exact h3.tag
 ·exact h4.tag
theorem wF {α:Type}{L M:Lay α}{v:V}{l:List α}(h:IS L v l) (k:∀r x,L.P r x->M.P r x):IS M v l:=h.imp id λ⟨g,rs,full,e,ha⟩=>⟨g,rs,full,e,ha.imp k⟩
theorem Sm {α:Type}{L M:Lay α}{t:Nat}{Z:Sg}{v:V}{l:List α}(h:LS L t Z v l)(hn:L.n=M.n) (k:∀r x,L.P r x->M.P r x):LS M t Z v l:=h.imp (λh=>wF h k) λ⟨b,cs,ex,rs,e,hb,ha,hc⟩=>⟨b,cs,ex,rs,e,hb,ha.imp k,by rw[<- hn];exact hc⟩
theorem sF:∀r x,fE.P r x->eK.P r x:=λr x ⟨a,l,h,h1,h2⟩=>⟨a,l,h,h1.is,h2.is⟩
theorem CG:∀r x,jY.P r x->bS.P r x:=λr x ⟨a,b,c,d,h,h1,h2,h3,h4⟩=>⟨a,b,c,d,h,h1.is,h2.is,h3.is,wF h4.is sF⟩
theorem I1 (h:bJ E) {U:Sg}{w a b c d:V}{l:List aD}{r:aD}{ex:Bool} (ow:bH jY 46 U w l)(h1:iO aM a r.ins)(h2:iO aM b r.outs)(h3:iO aM c r.after)(h4:iO fE d r.steps)(hb:l.length<=1000) :
  ∃w' τ',Ax.append E (U++[.cells 46 [.str r.name,a,b,c,d] ex]) #[22,22] w (.sl U.length 0 1 none)=some (w',τ')/\bH jY 46 τ' w' (l++[r])/\Sp (U++[.cells 46 [.str r.name,a,b,c,d] ex]) τ' w/\U.length<=τ'.length:=by
 obtain⟨w',τ',q1,q2,q3,q4,-⟩:=iB (m:=[r]) (new:=[[.str r.name,a,b,c,d]]) h.qA rfl h.bC rfl (by decide) (qE h) rfl (ow.app [.cells 46 [.str r.name,a,b,c,d] ex]) (kO rfl) (.one ⟨a,b,c,d,rfl,h1,h2,h3,h4⟩) (cZ (b:=1001) (by decide) (by simp only[aa,bf];omega))
 exact⟨w',τ',q1,q2,q3,by simp only[an,aa,bf]at q4;omega⟩
theorem DQ (h:bJ E) {a:V}{rs:List aD}(ha:LS bS 46 Z a rs)(hr:∀x∈rs,Raw x):aC E 45 [a] Z λv σ'=>σ'=Z/\iO jY v ((rs.take 42).map cut):=by
 obtain⟨a',ea,ia⟩:=dQ h ha
 rw[aH h.hs45 h.sp45 h.fn45 h.md45 (args':=[a']) (by simp only[aU,ea]),aX (by kernel_rfl)]
 have la:=cI h ia
 simp only[aA,Tryz.f45,KP,↓reduceIte,reduceLT]
 refine aV (λi F U=>F.get 0=a'/\F.get 4=.int .i64 (i:Int)/\∃w,F.get 3=w/\bH jY 46 U w ((rs.take i).map cut)) (min rs.length 42) ?_ ?_ (min rs.length 42) 0 _ _ (by omega) (lT (by simp +decide only[GS,aj]) ⟨.aB,(by simp +decide only[GS]),.inl ⟨rfl,rfl⟩⟩)
 ·rintro i F U hi ⟨g0,g4,w,g3,ow⟩ next
  obtain⟨r,hri⟩:∃y,rs[i]?=some y:=⟨_,BY (by omega)⟩
  have hraw:=hr r (af hri)
  obtain⟨g,p1,p2,p3,p4,e1,i1,i2,i3,i4⟩:=dK h ia hri
  have hlt:=eC (show i<rs.length by omega)
  have hlt2:decide ((i:Int)<42)=true:=AT (by omega)
  have hadd:=bY i (by omega)
  rw[aF]
  simp only[KP,Ax.loadAt,↓reduceIte,reduceEqDiff,reduceLT,reduceAdd,reduceCtorEq,h.bC,g0,g3,g4,la,hlt,hlt2,e1]
  refine aO (NW h (JP i1 i2 i3 i4) hraw) ?_
  rintro v σ' ⟨rfl,a1,b1,c1,d1,rfl,j1,j2,j3,j4⟩
  have o1:=aL j1.is.bF
  have o2:=aL j2.is.bF
  have o3:=aL j3.is.bF
  have o4:=aL j4.is.bF
  have hnm:r.name=(cut r).name:=rfl
  obtain⟨w',τ',ha2,ow2,-,-⟩:=I1 (r:=cut r) (ex:=true) h ow j1 j2 j3 j4 (by rw[az,bl];omega)
  rw[<- hnm]at ha2
  simp only[KP,↓reduceIte,reduceEqDiff,reduceLT,reduceLeDiff,reduceAdd,reduceMul,h.qA,h.bC,g4,ha2,hadd,o1,o2,o3,o4,Ax.fill,fG,fl]
  refine next _ _ (lT (by simp +decide only[GS,g0,aj]) ⟨w',(by simp +decide only[GS]),?_⟩)
  have e:(rs.take (i+1)).map cut=(rs.take i).map cut++[cut r]:=by rw[dh,hri];simp
  rw[e]
  exact ow2
 ·rintro F U ⟨g0,g4,w,g3,ow⟩
  obtain⟨v',e1,iv⟩:=oV h.bC rfl CH ow
  have ht:rs.take (min rs.length 42)=rs.take 42:=yR rs 42
  rw[ht]at iv
  rw[aF]
  by_cases hlen:rs.length<=42
  ·have hm:min rs.length 42=rs.length:=mw hlen
   rw[hm]at g4
   have hlt:=eG (bg rs.length)
   simp only[KP,↓reduceIte,reduceEqDiff,reduceLT,reduceCtorEq,g0,g3,g4,la,hlt,e1]
   exact iv
  ·have hm:min rs.length 42=42:=Nat.min_eq_right (by omega)
   rw[hm]at g4
   have hlt:decide (((42:Nat):Int)<(rs.length:Int))=true:=AT (by omega)
   have hlt2:decide (((42:Nat):Int)<42)=false:=rfl
   simp only[KP,↓reduceIte,reduceEqDiff,reduceLT,reduceCtorEq,g0,g3,g4,la,hlt,hlt2,e1]
   exact iv
end
end
section
section
variable {E:Env}{Z:Sg}{K:V->Sg->Prop}
theorem S9 (h:bJ E) {U:Sg}{w a b c d:V}{l:List aD}{r:aD}{y:Nat} (ow:bH jY 46 U w l)(hy:U[y]?=some (.cells 46 [.str r.name,a,b,c,d] true)) (j1:iO aM a r.ins) (j2:iO aM b r.outs) (j3:iO aM c r.after) (j4:iO fE d r.steps)(hs:∀x∈l++[r],Small x)(hl:l.length<=14)
  (F:FT) (g3:F.get 3=w) (g5:F.get 5=.ref y 0) {st:List iW}{Q:Ax.X->Fr->Sg->Prop}
  (hk:∀F' τ' e,(∀k,k∈[0,3,5,9,10,11]->F'.get k=F.get k)->F'.get 6=.int .i64 e->Jb (l++[r]) e->(∀(k:Nat) (o:O),U[k]?=some o->τ'[k]?=some o)->M E st .normal ⟨37,F'⟩ τ' Q):R E (.region 5 (opsOf (cutAt [1,1,0,1,2,2,1,1,0,2,1,0] (aA Tryz.f12).code)) true) st ⟨37,F⟩ U Q:=by
 obtain⟨rs,ee,hee⟩:=Qw (t:=46) (Z:=U) ow.ls
 obtain⟨w1,τ1,ha1,ow1,Uc,-,fb⟩:=iB (ats:=#[22,22]) (Z:=U) (w:=.aB) (l:=[]) (L:=jY) (x:=w) (m:=l) h.qA rfl h.bC rfl (by decide) (qE h) rfl (.inl ⟨rfl,rfl⟩) ee hee (cZ (b:=1000) (by decide) (by simp only[bf];omega))
 obtain⟨w2,τ2,ha2,ow2,JC,-,-⟩:=iB (ats:=#[22,22]) (Z:=τ1) (x:=.bT false [[.str r.name,a,b,c,d]] true) (m:=[r]) (new:=[[.str r.name,a,b,c,d]]) h.qA rfl h.bC rfl (by decide) (qE h) rfl ow1 rfl (.one ⟨a,b,c,d,rfl,j1,j2,j3,j4⟩) (cZ (b:=1000) (by decide) (by simp only[cq,aa,bf];omega))
 rw[cq]at ow2
 have hy1:τ1[y]?=some (.cells 46 [.str r.name,a,b,c,d] true):=Uc _ _ hy (by intro e;cases e)
 have hall:=IV (Z:=τ2) h (Sm ow2.ls rfl CG) ⟨by simp only[an,aa,bf];omega,hs⟩
 obtain⟨n,v,σ',hcall,hσ,e,nm,rfl,hE⟩:=hall
 rw[hσ]at hcall
 clear hσ σ'
 have o1:=aL j1.is.bF
 have o2:=aL j2.is.bF
 have o3:=aL j3.is.bF
 have o4:=aL j4.is.bF
 have t1:=j1.tag
 have t2:=j2.tag
 have t3:=j3.tag
 have t4:=j4.tag
 have ts:bU false (.str r.name)=true:=rfl
 have v1:=bV 10 j1.is
 have v2:=bV 10 j2.is
 have v3:=bV 10 j3.is
 have v4:=lN 9 (wF j4.is sF)
 have vs:=wU 10 r.name
 have va:oO 12 (.agg [.str r.name,a,b,c,d]) (.agg [.str r.name,a,b,c,d])=true:=p_ λx hx=>by
  simp only[By,br,dz]at hx
  rcases hx with rfl | rfl | rfl | rfl | rfl
  ·exact vs
  ·exact bV 9 j1.is
  ·exact bV 9 j2.is
  ·exact bV 9 j3.is
  ·exact lN 8 (wF j4.is sF)
 have key:∃F',bG E (ev E n) (opsOf (cutAt [1,1,0,1,2,2,1,1,0,2,1,0] (aA Tryz.f12).code)) ⟨37,F⟩ U=some (⟨37,F'⟩,τ2)/\(∀k,k∈[0,3,5,9,10,11]->F'.get k=F.get k)/\F'.get 6=.int .i64 e:=by
  unfold bG
  rw[h.W5,h.YE]
  simp only[aA,Tryz.f12,KP,Ax.loadAt,↓reduceIte,reduceEqDiff,reduceLT,reduceLeDiff,reduceAdd,reduceMul,h.qA,h.bC,opsOf,cutAt,Fz.lits,Fz.apps,eJ,bB,bQ,iX,Ax.comp,Ax.last,dM,Ax.again,rM,Ax.fill,fG,Ax.rows,fl,g3,g5,hy,hy1,ha1,ha2,hcall,o1,o2,o3,o4,t1,t2,t3,t4,ts,va]
  refine⟨_,rfl,λk hk=>?_,(by simp +decide only[GS])⟩
  simp only[By,br,dz]at hk
  rcases hk with rfl | rfl | rfl | rfl | rfl | rfl <;> simp +decide only[GS]
 obtain⟨F',hD,h1,h2⟩:=key
 refine Eq.mpr (fP hD) (hk F' τ2 e h1 h2 hE λk o ho=>?_)
 have h1':=Uc _ _ ho (by intro e;cases e)
 refine JC _ _ h1' λe=>?_
 rcases fb _ e with hb | hb
 ·cases hb
 ·exact absurd (AS.mp ho).1 (by omega)
theorem Ro (h:bJ E) {v:V}{l:List aD} (ia:IS jY v l) {i:Nat}{x:aD}(hx:l[i]?=some x):∃g a b c d,indexAddr E 22 v (.int .i64 (i:Int))=some (.dH g [.str x.name,a,b,c,d])/\iO aM a x.ins/\iO aM b x.outs/\iO aM c x.after/\iO fE d x.steps:=by
 obtain⟨g,r,e,a,b,c,d,hr,h1⟩:=IS.at h.qA rfl h.bC rfl ia hx
 exact⟨g,a,b,c,d,by rw[e,hr],h1⟩
theorem Hx:nN []:=⟨rfl,λ⟨i,hi,_⟩=>absurd hi (by simp)⟩
theorem WC (h:bJ E) {a:V}{rs:List aD}(ha:LS bS 46 Z a rs)(hr:∀x∈rs,Raw x):aC E 12 [a] Z λv σ'=>σ'=Z/\∃l,iO jY v l/\nN l/\l.length<=14/\∀x∈l,Small x:=by
 obtain⟨a',ea,ia⟩:=dQ h ha
 rw[aH h.hs12 h.OW h.fn12 h.md12 (args':=[a']) (by simp only[aU,ea]),aX (by kernel_rfl)]
 simp only[aA,Tryz.f12,KP,↓reduceIte,reduceLT,reduceCtorEq]
 refine aO (DQ h (ia.ls [] 46) hr) ?_
 rintro v σ' ⟨rfl,iv⟩
 have sm:∀x∈(rs.take 42).map cut,Small x:=λx hx=>by
  obtain⟨y,-,rfl⟩:=cg.1 hx
  exact Fo y
 have hl42:((rs.take 42).map cut).length<=42:=by rw[az,bl];omega
 generalize (rs.take 42).map cut=ls at iv sm hl42
 have la:=cI h (wF iv.is CG)
 simp only[KP,↓reduceIte,reduceLT,la]
 refine aV (λi F U=>F.get 9=v/\F.get 10=.int .i64 (ls.length:Int)/\F.get 11=.int .i64 (i:Int)/\∃w l,F.get 3=w/\bH jY 46 U w l/\nN l/\l.length<=14/\∀x∈l,Small x) ls.length ?_ ?_ ls.length 0 _ _ (by omega) (gE (by simp +decide only[GS,aj]) ⟨.aB,[],(by simp +decide only[GS]),.inl ⟨rfl,rfl⟩,Hx,by simp,λx hx=>by cases hx⟩)
 ·rintro i F U hi ⟨g9,g10,g11,w,l,g3,ow,hok,hlen,hsm⟩ next
  obtain⟨r,hri⟩:∃y,ls[i]?=some y:=⟨_,BY (by omega)⟩
  have hrs:=sm r (af hri)
  obtain⟨g,p1,p2,p3,p4,e1,i1,i2,i3,i4⟩:=Ro h iv.is hri
  have hlt:=eC hi
  have hadd:=bY i (by omega)
  rw[aF]
  have o1:=aL i1.is.bF
  have o2:=aL i2.is.bF
  have o3:=aL i3.is.bF
  have o4:=aL i4.is.bF
  simp only[KP,Ax.loadAt,Ax.storeAt,↓reduceIte,reduceEqDiff,reduceLT,reduceAdd,h.bC,g9,g10,g11,hlt,e1,o1,o2,o3,o4,aR,dR]
  refine S9 h (ow.app _) (y:=U.length) ?_ i1 i2 i3 i4 ?_ hlen _ ?_ ?_ ?_
  ·simp
  ·intro x hx
   rcases bw.1 hx with hx | hx
   ·exact hsm x hx
   ·rw[dc.1 hx];exact hrs
  ·exact (by simp +decide only[GS,g3])
  ·exact (by simp +decide only[GS])
  intro F' τ' e hF h6 hE hT
  have q3:F'.get 3=w:=(hF 3 (by simp)).trans (show _=w by simp only[FT.dJ,reduceEqDiff,↓reduceIte,g3])
  have q5:F'.get 5=.ref U.length 0:=(hF 5 (by simp)).trans (by simp +decide only[GS])
  have q9:F'.get 9=v:=(hF 9 (by simp)).trans (by simp +decide only[GS,g9])
  have GW:F'.get 10=.int .i64 (ls.length:Int):=(hF 10 (by simp)).trans (by simp +decide only[GS,g10])
  have Jg:F'.get 11=.int .i64 (i:Int):=(hF 11 (by simp)).trans (by simp +decide only[GS,g11])
  have ow':bH jY 46 τ' w l:=(ow.app [O.cells 46 [.str r.name,p1,p2,p3,p4] true]).keep λc o _ hc=>hT c o hc
  have hy:τ'[U.length]?=some (O.cells 46 [.str r.name,p1,p2,p3,p4] true):=hT _ _ (by simp)
  have lw:=pM h.qA rfl ow'.ls
  have hz:=hE.zero
  by_cases he:e=0
  ·have c1:decide (e=0)=true:=AT he
   by_cases h14:l.length<14
   ·have c2:decide ((l.length:Int)<14)=true:=AT (by omega)
    obtain⟨w2,τ2,ha2,ow2,-,-⟩:=I1 (ex:=true) h ow' i1 i2 i3 i4 (by omega)
    simp only[KP,Ax.loadAt,↓reduceIte,reduceEqDiff,reduceLT,reduceLeDiff,reduceAdd,reduceMul,h.qA,h.bC,q3,q5,Jg,h6,lw,c1,c2,hy,hadd,ha2,o1,o2,o3,o4,Ax.fill,fG,fl]
    refine next _ _ (gE (by simp +decide only[GS,q9,GW,aj]) ⟨w2,l++[r],(by simp +decide only[GS]),ow2,hz.1 he,?_,?_⟩)
    ·rw[an,jf];omega
    ·intro x hx
     rcases bw.1 hx with hx | hx
     ·exact hsm x hx
     ·rw[dc.1 hx];exact hrs
   ·have c2:decide ((l.length:Int)<14)=false:=AI (by omega)
    simp only[KP,↓reduceIte,reduceEqDiff,reduceLT,q3,Jg,h6,lw,c1,c2,hadd]
    exact next _ _ (gE (by simp +decide only[GS,q9,GW,aj]) ⟨w,l,(by simp +decide only[GS,q3]),ow',hok,hlen,hsm⟩)
  ·have c1:decide (e=0)=false:=AI he
   simp only[KP,↓reduceIte,reduceEqDiff,reduceLT,Jg,h6,c1,hadd]
   exact next _ _ (gE (by simp +decide only[GS,q9,GW,aj]) ⟨w,l,(by simp +decide only[GS,q3]),ow',hok,hlen,hsm⟩)
 ·rintro F U ⟨g9,g10,g11,w,l,g3,ow,hok,hlen,hsm⟩
  obtain⟨v',e1,iv⟩:=oV h.bC rfl CH ow
  have hlt:=eG (bg ls.length)
  rw[aF]
  simp only[KP,↓reduceIte,reduceEqDiff,reduceLT,g3,g10,g11,hlt,e1]
  exact⟨l,iv,hok,hlen,hsm⟩
end
end
section
section
variable {E:Env}{Z:Sg}{K:V->Sg->Prop}
theorem sH {k:Nat}{caps:List V}(hc:∀c∈caps,Ax.bF c=true) (Z:Sg):aQ Z E.ty true (.fn k [] caps)=some (.fn k [] caps):=by
 have e:aU (aQ.one Z E.ty true) caps=some caps:=iS λc hx=>by
  have:=cU (Z:=Z) (ty:=E.ty) (g:=true) (hc c hx) (cF (hc c hx))
  have h2:=hc c hx
  cases c <;> first | exact this | cases h2
 simp only[aQ,e,aU]
theorem TW (h:bJ E) {a:V}{l:List bD}{k:Nat}{caps:List V}{P:bD->Bool}(ha:LS aM 9 Z a l)(hsm:l.length<=4294967296)(hc:∀c∈caps,Ax.bF c=true)(hP:∀(y:bD) (v:V),y∈l->v=.str y->aC E k ([v]++caps) [] λu U=>U=[]/\u=.bool (P y)) {fv:V} (ef:aQ Z E.ty true fv=some (.fn k [] caps)):aC E 80 [a,fv] Z K=K (.int .i64 (idx (bN P l))) Z:=by
 refine aC.of ?_
 obtain⟨a',ea,ia⟩:=iP h ha
 rw[aH h.hs80 h.sp80 h.fn80 h.md80 (args':=[a',.fn k [] caps]) (by simp only[aU,ea,ef]),aX (by kernel_rfl)]
 have la:=bP h ia
 simp only[aA,Tryz.f80,KP,↓reduceIte,reduceLT,reduceAdd,reduceCtorEq,reduceNeg,la]
 refine aV (λi F U=>U=[]/\F.get 0=a'/\F.get 1=.fn k [] caps/\F.get 8=.int .i64 (i:Int)/\F.get 7=.int .i64 (l.length:Int)/\∀j y,j<i->l[j]?=some y->P y=false) l.length ?_ ?_ l.length 0 _ _ (by omega) ⟨rfl,(fZ (by simp +decide only[GS,aj]) (λj y hj=>by omega))⟩
 ·rintro i F U hi ⟨rfl,g0,g1,g8,g7,hp⟩ next
  obtain⟨x,hx⟩:∃x,l[i]?=some x:=⟨_,BY hi⟩
  obtain⟨g,e1⟩:=gI h ia hx
  have hv:V.str x=.str x:=rfl
  have hlt:=eC hi
  have hadd:=bY i (by omega)
  rw[aF]
  simp only[KP,Ax.loadAt,↓reduceIte,reduceEqDiff,reduceLT,reduceCtorEq,reduceNeg,h.cM,g0,g1,g7,g8,hlt,e1]
  refine aO (hP x _ (af hx) hv) ?_
  rintro u U ⟨rfl,rfl⟩
  by_cases hxs:P x=true
  ·simp only[KP,↓reduceIte,reduceEqDiff,reduceLT,reduceNeg,hxs]
   rw[iA (i:=i) (x:=x) hp hx hxs]
   exact rfl
  ·have hxs:P x=false:=by simpa using hxs
   simp only[KP,↓reduceIte,reduceEqDiff,reduceLT,reduceNeg,g8,hxs,hadd]
   refine next _ _ ⟨rfl,(fZ (by simp +decide only[GS,g0,g1,g7,aj]) (λj y hj hy=>?_))⟩
   rcases cj j i with g | g
   ·exact hp j y g hy
   ·obtain rfl:j=i:=by omega
    rw[hx]at hy;cases hy;exact hxs
 ·rintro F U ⟨rfl,g0,g1,g8,g7,hp⟩
  have hlt:=eG (bg l.length)
  rw[aF]
  simp only[KP,↓reduceIte,reduceLT,reduceNeg,g7,g8,hlt]
  rw[fR λx hx=>by
   obtain⟨j,hj,e⟩:=fg hx
   exact hp j x hj (by rw[BY hj,e])]
  exact rfl
theorem WA (h:bJ E) {a:V}{l:List bD}{k:Nat}{caps:List V}{P:bD->Bool}(ha:LS aM 9 Z a l)(hsm:l.length<=4294967296)(hc:∀c∈caps,Ax.bF c=true)(hP:∀(y:bD) (v:V),y∈l->v=.str y->aC E k ([v]++caps) [] λu U=>U=[]/\u=.bool (P y)):aC E 80 [a,.fn k [] caps] Z K=K (.int .i64 (idx (bN P l))) Z:=TW h ha hsm hc hP (sH hc Z)
theorem rW (h:bJ E) {a:V}{l:List bD}{k:Nat}{caps:List V}{P:bD->Bool}(ha:LS aM 9 Z a l)(hsm:l.length<=4294967296)(hc:∀c∈caps,Ax.bF c=true)(hP:∀(y:bD) (v:V),y∈l->v=.str y->aC E k ([v]++caps) [] λu U=>U=[]/\u=.bool (P y)) {fv:V} (ef:aQ Z E.ty true fv=some (.fn k [] caps)):aC E 82 [a,fv] Z K=K (.bool (l.any P)) Z:=by
 refine aC.of ?_
 obtain⟨a',ea,ia⟩:=iP h ha
 rw[aH h.hs82 h.sp82 h.fn82 h.md82 (args':=[a',.fn k [] caps]) (by simp only[aU,ea,ef]),aX (by kernel_rfl)]
 have key:=λK=>WA (Z:=[]) (K:=K) h (ia.ls [] 9) hsm hc hP
 have kk:=cH key
 simp only[aA,Tryz.f82,KP,↓reduceIte,reduceEqDiff,reduceLT,reduceAdd,reduceCtorEq,kk,lH,cG]
 exact rfl
theorem Ml (h:bJ E) {a:V}{l:List bD}{k:Nat}{caps:List V}{P:bD->Bool}(ha:LS aM 9 Z a l)(hsm:l.length<=4294967296)(hc:∀c∈caps,Ax.bF c=true)(hP:∀(y:bD) (v:V),y∈l->v=.str y->aC E k ([v]++caps) [] λu U=>U=[]/\u=.bool (P y)):aC E 82 [a,.fn k [] caps] Z K=K (.bool (l.any P)) Z:=rW h ha hsm hc hP (sH hc Z)
theorem LP (h:bJ E) {a:V}{l:List bD}{k:Nat}{caps:List V}{P:bD->Bool}(ha:LS aM 9 Z a l)(hsm:l.length<=4294967296)(hc:∀c∈caps,Ax.bF c=true)(hP:∀(y:bD) (v:V),y∈l->v=.str y->aC E k ([v]++caps) [] λu U=>U=[]/\u=.bool (P y)):KC E 82 [a,.fn k [] caps] Z (.bool (l.any P)) Z:=cH λ_=>Ml h ha hsm hc hP
theorem NZ (h:bJ E) {a:V}{l:List AxS.Step}{k:Nat}{caps:List V}{P:AxS.Step->Bool}(ha:LS eK 82 Z a l)(hsm:l.length<=4294967296)(hc:∀c∈caps,Ax.bF c=true)(hP:∀(y:AxS.Step) (v:V),y∈l->KG v y->aC E k ([v]++caps) [] λu U=>U=[]/\u=.bool (P y)) {fv:V} (ef:aQ Z E.ty true fv=some (.fn k [] caps)):aC E 250 [a,fv] Z K=K (.int .i64 (idx (bN P l))) Z:=by
 refine aC.of ?_
 obtain⟨a',ea,ia⟩:=Cv h ha
 rw[aH h.ZH h.Xj h.aav h.YQ (args':=[a',.fn k [] caps]) (by simp only[aU,ea,ef]),aX (by kernel_rfl)]
 have la:=jJ h ia
 simp only[aA,Tryz.f250,KP,↓reduceIte,reduceLT,reduceAdd,reduceCtorEq,reduceNeg,la]
 refine aV (λi F U=>U=[]/\F.get 0=a'/\F.get 1=.fn k [] caps/\F.get 8=.int .i64 (i:Int)/\F.get 7=.int .i64 (l.length:Int)/\∀j y,j<i->l[j]?=some y->P y=false) l.length ?_ ?_ l.length 0 _ _ (by omega) ⟨rfl,(fZ (by simp +decide only[GS,aj]) (λj y hj=>by omega))⟩
 ·rintro i F U hi ⟨rfl,g0,g1,g8,g7,hp⟩ next
  obtain⟨x,hx⟩:∃x,l[i]?=some x:=⟨_,BY hi⟩
  obtain⟨g,p1,p2,e1,i1,i2⟩:=qM h ia hx
  have hv:KG (.agg [.str x.out,.int .i64 x.op,p1,p2,.int .i64 x.n]) x:=⟨p1,p2,rfl,i1,i2⟩
  have hlt:=eC hi
  have hadd:=bY i (by omega)
  rw[aF]
  simp only[KP,Ax.loadAt,↓reduceIte,reduceEqDiff,reduceLT,reduceAdd,reduceCtorEq,reduceNeg,h.cN,g0,g1,g7,g8,hlt,e1]
  refine aO (hP x _ (af hx) hv) ?_
  rintro u U ⟨rfl,rfl⟩
  by_cases hxs:P x=true
  ·simp only[KP,↓reduceIte,reduceEqDiff,reduceLT,reduceNeg,hxs]
   rw[iA (i:=i) (x:=x) hp hx hxs]
   exact rfl
  ·have hxs:P x=false:=by simpa using hxs
   simp only[KP,↓reduceIte,reduceEqDiff,reduceLT,reduceNeg,g8,hxs,hadd]
   refine next _ _ ⟨rfl,(fZ (by simp +decide only[GS,g0,g1,g7,aj]) (λj y hj hy=>?_))⟩
   rcases cj j i with g | g
   ·exact hp j y g hy
   ·obtain rfl:j=i:=by omega
    rw[hx]at hy;cases hy;exact hxs
 ·rintro F U ⟨rfl,g0,g1,g8,g7,hp⟩
  have hlt:=eG (bg l.length)
  rw[aF]
  simp only[KP,↓reduceIte,reduceLT,reduceNeg,g7,g8,hlt]
  rw[fR λx hx=>by
   obtain⟨j,hj,e⟩:=fg hx
   exact hp j x hj (by rw[BY hj,e])]
  exact rfl
theorem Q_ (h:bJ E) {a:V}{l:List AxS.Step}{k:Nat}{caps:List V}{P:AxS.Step->Bool}(ha:LS eK 82 Z a l)(hsm:l.length<=4294967296)(hc:∀c∈caps,Ax.bF c=true)(hP:∀(y:AxS.Step) (v:V),y∈l->KG v y->aC E k ([v]++caps) [] λu U=>U=[]/\u=.bool (P y)):aC E 250 [a,.fn k [] caps] Z K=K (.int .i64 (idx (bN P l))) Z:=NZ h ha hsm hc hP (sH hc Z)
theorem Kx (h:bJ E) {a:V}{l:List AxS.Step}{k:Nat}{caps:List V}{P:AxS.Step->Bool}(ha:LS eK 82 Z a l)(hsm:l.length<=4294967296)(hc:∀c∈caps,Ax.bF c=true)(hP:∀(y:AxS.Step) (v:V),y∈l->KG v y->aC E k ([v]++caps) [] λu U=>U=[]/\u=.bool (P y)) {fv:V} (ef:aQ Z E.ty true fv=some (.fn k [] caps)):aC E 213 [a,fv] Z K=K (.bool (l.any P)) Z:=by
 refine aC.of ?_
 obtain⟨a',ea,ia⟩:=Cv h ha
 rw[aH h.ZO h.Xq h.aaC h.YX (args':=[a',.fn k [] caps]) (by simp only[aU,ea,ef]),aX (by kernel_rfl)]
 have key:=λK=>Q_ (Z:=[]) (K:=K) h (ia.ls [] 82) hsm hc hP
 have kk:=cH key
 simp only[aA,Tryz.f213,KP,↓reduceIte,reduceEqDiff,reduceLT,reduceAdd,reduceCtorEq,kk,lH,cG]
 exact rfl
theorem N0 (h:bJ E) {a:V}{l:List AxS.Step}{k:Nat}{caps:List V}{P:AxS.Step->Bool}(ha:LS eK 82 Z a l)(hsm:l.length<=4294967296)(hc:∀c∈caps,Ax.bF c=true)(hP:∀(y:AxS.Step) (v:V),y∈l->KG v y->aC E k ([v]++caps) [] λu U=>U=[]/\u=.bool (P y)):aC E 213 [a,.fn k [] caps] Z K=K (.bool (l.any P)) Z:=Kx h ha hsm hc hP (sH hc Z)
theorem Np (h:bJ E) {a:V}{l:List AxS.Step}{k:Nat}{caps:List V}{P:AxS.Step->Bool}(ha:LS eK 82 Z a l)(hsm:l.length<=4294967296)(hc:∀c∈caps,Ax.bF c=true)(hP:∀(y:AxS.Step) (v:V),y∈l->KG v y->aC E k ([v]++caps) [] λu U=>U=[]/\u=.bool (P y)):KC E 213 [a,.fn k [] caps] Z (.bool (l.any P)) Z:=cH λ_=>N0 h ha hsm hc hP
theorem abU (h:bJ E) {a:V}{l:List bD}{s:bD}(ha:LS aM 9 Z a l)(hsm:l.length<=4294967296):aC E 132 [a,.str s] Z K=K (.int .i64 (idx (bN (λx=>decide (x=s)) l))) Z:=by
 refine aC.of ?_
 obtain⟨a',ea,ia⟩:=iP h ha
 rw[aH h.Z8 h.XK h.aaU h.Ze (args':=[a',.str s]) (by simp only[aU,ea,dD]),aX (by kernel_rfl)]
 have la:=bP h ia
 simp only[aA,Tryz.f132,KP,↓reduceIte,reduceLT,reduceAdd,reduceCtorEq,reduceNeg,la]
 refine aV (λi F U=>U=[]/\F.get 0=a'/\F.get 1=.str s/\F.get 8=.int .i64 (i:Int)/\F.get 7=.int .i64 (l.length:Int)/\∀j y,j<i->l[j]?=some y->y≠s) l.length ?_ ?_ l.length 0 _ _ (by omega) ⟨rfl,(fZ (by simp +decide only[GS,aj]) (λj y hj=>by omega))⟩
 ·rintro i F U hi ⟨rfl,g0,g1,g8,g7,hp⟩ next
  obtain⟨x,hx⟩:∃x,l[i]?=some x:=⟨_,BY hi⟩
  obtain⟨g,e1⟩:=gI h ia hx
  have hlt:=eC hi
  have hadd:=bY i (by omega)
  rw[aF]
  by_cases hxs:x=s
  ·have hs:=gC hxs.symm
   simp only[KP,Ax.loadAt,↓reduceIte,reduceEqDiff,reduceLT,reduceCtorEq,reduceNeg,h.cM,g0,g1,g7,g8,hlt,e1,hs]
   rw[iA (i:=i) (x:=x) (λj y hj hy=>AI (hp j y hj hy)) hx (AT hxs)]
   exact rfl
  ·have hs:=fU (jo hxs)
   simp only[KP,Ax.loadAt,↓reduceIte,reduceEqDiff,reduceLT,reduceCtorEq,reduceNeg,h.cM,g0,g1,g7,g8,hlt,e1,hs,hadd]
   refine next _ _ ⟨rfl,(fZ (by simp +decide only[GS,g0,g1,g7,aj]) (λj y hj hy=>?_))⟩
   rcases cj j i with g | g
   ·exact hp j y g hy
   ·obtain rfl:j=i:=by omega
    rw[hx]at hy;cases hy;exact hxs
 ·rintro F U ⟨rfl,g0,g1,g8,g7,hp⟩
  have hlt:=eG (bg l.length)
  rw[aF]
  simp only[KP,↓reduceIte,reduceLT,reduceNeg,g7,g8,hlt]
  rw[fR λx hx=>by
   obtain⟨j,hj,e⟩:=fg hx
   exact AI (hp j x hj (by rw[BY hj,e]))]
  exact rfl
theorem WD (h:bJ E) {a:V}{l:List bD}{s:bD}(ha:LS aM 9 Z a l)(hsm:l.length<=4294967296):aC E 99 [a,.str s] Z K=K (.bool (decide (s∈l))) Z:=by
 refine aC.of ?_
 obtain⟨a',ea,ia⟩:=iP h ha
 rw[aH h.hs99 h.sp99 h.fn99 h.md99 (args':=[a',.str s]) (by simp only[aU,ea,dD]),aX (by kernel_rfl)]
 have kk:=cH (λK=>abU (Z:=[]) (s:=s) (K:=K) h (ia.ls [] 9) hsm)
 simp only[aA,Tryz.f99,KP,↓reduceIte,reduceEqDiff,reduceLT,reduceAdd,reduceCtorEq,kk,lH,cG,any_eq]
 exact rfl
theorem Dd (h:bJ E) {a:V}{l:List bD}{s:bD}(ha:LS aM 9 Z a l)(hsm:l.length<=4294967296):KC E 99 [a,.str s] Z (.bool (decide (s∈l))) Z:=cH λ_=>WD h ha hsm
end
end
section
section
variable {E:Env}{Z:Sg}{K:V->Sg->Prop}
theorem Wt (h:bJ E) {c:Nat}:aC E 266 [.int .i32 (c:Int)] Z K=K (.bool (sign c)) Z:=by
 refine aC.of ?_
 rw[aH h.ZE h.Xg h.aas h.YN (args':=[.int .i32 (c:Int)]) (by simp only[aU,show aQ Z E.ty true (.int .i32 (c:Int))=some (.int .i32 (c:Int)) from rfl]),aX (by kernel_rfl)]
 have hcut:(0<=c/\c<=44)\/(45<=c/\c<=45)\/(46<=c/\c<=46)\/(47<=c/\c<=47)\/(48<=c/\c<=57)\/(58<=c/\c<=64)\/(65<=c/\c<=90)\/(91<=c/\c<=94)\/(95<=c/\c<=95)\/(96<=c/\c<=96)\/(97<=c/\c<=122)\/(123<=c/\123<=c):=by omega
 rcases hcut with⟨h1,h2⟩ | ⟨h1,h2⟩ | ⟨h1,h2⟩ | ⟨h1,h2⟩ | ⟨h1,h2⟩ | ⟨h1,h2⟩ | ⟨h1,h2⟩ | ⟨h1,h2⟩ | ⟨h1,h2⟩ | ⟨h1,h2⟩ | ⟨h1,h2⟩ | ⟨h1,h2⟩
 ·rw[show sign c=false from by unfold sign;simp;omega]
  have q0:decide ((97:Int)<=(c:Int))=false:=AI (by omega)
  have q2:decide ((65:Int)<=(c:Int))=false:=AI (by omega)
  have q4:decide ((48:Int)<=(c:Int))=false:=AI (by omega)
  have q6:decide ((c:Int)=46)=false:=AI (by omega)
  have q7:decide ((c:Int)=95)=false:=AI (by omega)
  have q8:decide ((c:Int)=45)=false:=AI (by omega)
  simp only[aA,Tryz.f266,KP,↓reduceIte,reduceEqDiff,reduceLT,reduceCtorEq,q0,q2,q4,q6,q7,q8]
  exact rfl
 ·rw[show sign c=true from by unfold sign;simp;omega]
  have q0:decide ((97:Int)<=(c:Int))=false:=AI (by omega)
  have q2:decide ((65:Int)<=(c:Int))=false:=AI (by omega)
  have q4:decide ((48:Int)<=(c:Int))=false:=AI (by omega)
  have q6:decide ((c:Int)=46)=false:=AI (by omega)
  have q7:decide ((c:Int)=95)=false:=AI (by omega)
  have q8:decide ((c:Int)=45)=true:=AT (by omega)
  simp only[aA,Tryz.f266,KP,↓reduceIte,reduceEqDiff,reduceLT,reduceCtorEq,q0,q2,q4,q6,q7,q8]
  exact rfl
 ·rw[show sign c=true from by unfold sign;simp;omega]
  have q0:decide ((97:Int)<=(c:Int))=false:=AI (by omega)
  have q2:decide ((65:Int)<=(c:Int))=false:=AI (by omega)
  have q4:decide ((48:Int)<=(c:Int))=false:=AI (by omega)
  have q6:decide ((c:Int)=46)=true:=AT (by omega)
  simp only[aA,Tryz.f266,KP,↓reduceIte,reduceEqDiff,reduceLT,reduceCtorEq,q0,q2,q4,q6]
  exact rfl
 ·rw[show sign c=false from by unfold sign;simp;omega]
  have q0:decide ((97:Int)<=(c:Int))=false:=AI (by omega)
  have q2:decide ((65:Int)<=(c:Int))=false:=AI (by omega)
  have q4:decide ((48:Int)<=(c:Int))=false:=AI (by omega)
  have q6:decide ((c:Int)=46)=false:=AI (by omega)
  have q7:decide ((c:Int)=95)=false:=AI (by omega)
  have q8:decide ((c:Int)=45)=false:=AI (by omega)
  simp only[aA,Tryz.f266,KP,↓reduceIte,reduceEqDiff,reduceLT,reduceCtorEq,q0,q2,q4,q6,q7,q8]
  exact rfl
 ·rw[show sign c=true from by unfold sign;simp;omega]
  have q0:decide ((97:Int)<=(c:Int))=false:=AI (by omega)
  have q2:decide ((65:Int)<=(c:Int))=false:=AI (by omega)
  have q4:decide ((48:Int)<=(c:Int))=true:=AT (by omega)
  have q5:decide ((c:Int)<=57)=true:=AT (by omega)
  simp only[aA,Tryz.f266,KP,↓reduceIte,reduceEqDiff,reduceLT,reduceCtorEq,q0,q2,q4,q5]
  exact rfl
 ·rw[show sign c=false from by unfold sign;simp;omega]
  have q0:decide ((97:Int)<=(c:Int))=false:=AI (by omega)
  have q2:decide ((65:Int)<=(c:Int))=false:=AI (by omega)
  have q4:decide ((48:Int)<=(c:Int))=true:=AT (by omega)
  have q5:decide ((c:Int)<=57)=false:=AI (by omega)
  have q6:decide ((c:Int)=46)=false:=AI (by omega)
  have q7:decide ((c:Int)=95)=false:=AI (by omega)
  have q8:decide ((c:Int)=45)=false:=AI (by omega)
  simp only[aA,Tryz.f266,KP,↓reduceIte,reduceEqDiff,reduceLT,reduceCtorEq,q0,q2,q4,q5,q6,q7,q8]
  exact rfl
 ·rw[show sign c=true from by unfold sign;simp;omega]
  have q0:decide ((97:Int)<=(c:Int))=false:=AI (by omega)
  have q2:decide ((65:Int)<=(c:Int))=true:=AT (by omega)
  have q3:decide ((c:Int)<=90)=true:=AT (by omega)
  simp only[aA,Tryz.f266,KP,↓reduceIte,reduceEqDiff,reduceLT,reduceCtorEq,q0,q2,q3]
  exact rfl
 ·rw[show sign c=false from by unfold sign;simp;omega]
  have q0:decide ((97:Int)<=(c:Int))=false:=AI (by omega)
  have q2:decide ((65:Int)<=(c:Int))=true:=AT (by omega)
  have q3:decide ((c:Int)<=90)=false:=AI (by omega)
  have q4:decide ((48:Int)<=(c:Int))=true:=AT (by omega)
  have q5:decide ((c:Int)<=57)=false:=AI (by omega)
  have q6:decide ((c:Int)=46)=false:=AI (by omega)
  have q7:decide ((c:Int)=95)=false:=AI (by omega)
  have q8:decide ((c:Int)=45)=false:=AI (by omega)
  simp only[aA,Tryz.f266,KP,↓reduceIte,reduceEqDiff,reduceLT,reduceCtorEq,q0,q2,q3,q4,q5,q6,q7,q8]
  exact rfl
 ·rw[show sign c=true from by unfold sign;simp;omega]
  have q0:decide ((97:Int)<=(c:Int))=false:=AI (by omega)
  have q2:decide ((65:Int)<=(c:Int))=true:=AT (by omega)
  have q3:decide ((c:Int)<=90)=false:=AI (by omega)
  have q4:decide ((48:Int)<=(c:Int))=true:=AT (by omega)
  have q5:decide ((c:Int)<=57)=false:=AI (by omega)
  have q6:decide ((c:Int)=46)=false:=AI (by omega)
  have q7:decide ((c:Int)=95)=true:=AT (by omega)
  simp only[aA,Tryz.f266,KP,↓reduceIte,reduceEqDiff,reduceLT,reduceCtorEq,q0,q2,q3,q4,q5,q6,q7]
  exact rfl
 ·rw[show sign c=false from by unfold sign;simp;omega]
  have q0:decide ((97:Int)<=(c:Int))=false:=AI (by omega)
  have q2:decide ((65:Int)<=(c:Int))=true:=AT (by omega)
  have q3:decide ((c:Int)<=90)=false:=AI (by omega)
  have q4:decide ((48:Int)<=(c:Int))=true:=AT (by omega)
  have q5:decide ((c:Int)<=57)=false:=AI (by omega)
  have q6:decide ((c:Int)=46)=false:=AI (by omega)
  have q7:decide ((c:Int)=95)=false:=AI (by omega)
  have q8:decide ((c:Int)=45)=false:=AI (by omega)
  simp only[aA,Tryz.f266,KP,↓reduceIte,reduceEqDiff,reduceLT,reduceCtorEq,q0,q2,q3,q4,q5,q6,q7,q8]
  exact rfl
 ·rw[show sign c=true from by unfold sign;simp;omega]
  have q0:decide ((97:Int)<=(c:Int))=true:=AT (by omega)
  have q1:decide ((c:Int)<=122)=true:=AT (by omega)
  simp only[aA,Tryz.f266,KP,↓reduceIte,reduceEqDiff,reduceLT,reduceCtorEq,q0,q1]
  exact rfl
 ·rw[show sign c=false from by unfold sign;simp;omega]
  have q0:decide ((97:Int)<=(c:Int))=true:=AT (by omega)
  have q1:decide ((c:Int)<=122)=false:=AI (by omega)
  have q2:decide ((65:Int)<=(c:Int))=true:=AT (by omega)
  have q3:decide ((c:Int)<=90)=false:=AI (by omega)
  have q4:decide ((48:Int)<=(c:Int))=true:=AT (by omega)
  have q5:decide ((c:Int)<=57)=false:=AI (by omega)
  have q6:decide ((c:Int)=46)=false:=AI (by omega)
  have q7:decide ((c:Int)=95)=false:=AI (by omega)
  have q8:decide ((c:Int)=45)=false:=AI (by omega)
  simp only[aA,Tryz.f266,KP,↓reduceIte,reduceEqDiff,reduceLT,reduceCtorEq,q0,q1,q2,q3,q4,q5,q6,q7,q8]
  exact rfl
theorem VI (h:bJ E) {c:Nat}:KC E 266 [.int .i32 (c:Int)] Z (.bool (sign c)) Z:=cH λ_=>Wt h
theorem NU (h:bJ E) {c:Nat}:aC E 265 [.int .i32 (c:Int)] Z K=K (.bool (!sign c)) Z:=by
 refine aC.of ?_
 rw[aH h.ZF h.Xh h.aat h.YO (args':=[.int .i32 (c:Int)]) (by simp only[aU,show aQ Z E.ty true (.int .i32 (c:Int))=some (.int .i32 (c:Int)) from rfl]),aX (by kernel_rfl)]
 have ks:=λ(U:Sg)=>VI (Z:=U) h (c:=c)
 simp only[aA,Tryz.f265,KP,↓reduceIte,reduceLT,reduceCtorEq,ks]
 exact rfl
theorem byte_at {s:bD}{pos ch:Nat}(hc:s[pos]?=some ch)(h:ch<256):((sE s).get! pos).toNat=ch:=by
 show ((s.map UInt8.ofNat).toArray[pos]!).toNat=ch
 have e:(s.map UInt8.ofNat).toArray[pos]?=some (UInt8.ofNat ch):=by simp[hc]
 rw[getElem!_def,e]
 simp only[UInt8.toNat_ofNat']
 omega
theorem R3 {s:bD}{pos ch:Nat}(hc:s[pos]?=some ch)(h1:¬ ch<128)(h2:ch<256):128<=(Utf8.decode (sE s) pos).1:=by
 unfold Utf8.decode
 simp only[kj,byte_at hc h2,h1,aq]
 repeat' split
 all_goals first
  |(simp only[Utf8.runeError];omega)
  |(simp only[ah,fu,IT,ge_iff_le]at *;omega)
theorem HN {c:Nat}(h:128<=c):sign c=false:=by
 unfold sign;simp;omega
theorem Kh (h:bJ E):kY E 4 false (.bool true) (.bool true)=some true:=by unfold kY;rw[h.uC];rfl
theorem V9 (h:bJ E):kY E 4 false (.bool false) (.bool true)=some false:=by unfold kY;rw[h.uC];rfl
theorem b_xF (h:bJ E) {s:bD}{k:Nat}{P:Nat->Bool}(hsm:s.length<=4294967296)(hP:∀(Z:Sg) (r:Nat),aC E k [.int .i32 (r:Int)] Z λu U=>U=Z/\u=.bool (P r))(hhi:∀r,128<=r->P r=true):aC E 321 [.str s,.fn k [] [],.bool true] Z λv U=>U=Z/\∃n:Int,v=.int .i64 n/\decide (0<=n)=s.any P:=by
 have ef:=sH (E:=E) (k:=k) (caps:=[]) (λ_ h=>by cases h) Z
 rw[aH h.ZC h.Xd h.aaq h.YL (args':=[.str s,.fn k [] [],.bool true]) (by simp only[aU,dD,ef,show aQ Z E.ty true (.bool true)=some (.bool true) from rfl]),aX (by kernel_rfl)]
 simp only[aA,Tryz.f321,KP,↓reduceIte,reduceLT,reduceAdd,reduceCtorEq,reduceNeg,h.cM,pI]
 refine aV (λi F U=>U=[.Je s i]/\F.get 1=.fn k [] []/\F.get 2=.bool true/\F.get 10=.ref 0 0/\∀j y,j<i->s[j]?=some y->P y=false) s.length ?_ ?_ s.length 0 _ _ (by omega) ⟨rfl,(gE (by simp +decide only[GS,aj]) (λj y hj=>by omega))⟩
 ·rintro i F U hi ⟨rfl,g1,g2,g10,hp⟩ next
  obtain⟨x,hx⟩:∃x,s[i]?=some x:=⟨_,BY hi⟩
  rw[aF]
  by_cases h128:x<128
  ·simp only[KP,↓reduceIte,reduceEqDiff,reduceLT,reduceNeg,g1,g10,wZ,hx,h128]
   refine aO (hP _ x) ?_
   rintro u U ⟨rfl,rfl⟩
   by_cases hxs:P x=true
   ·simp only[KP,↓reduceIte,reduceEqDiff,reduceLT,reduceNeg,g2,hxs,Kh h]
    exact⟨_,rfl,by rw[show s.any P=true from ek.2 ⟨x,af hx,hxs⟩];exact AT (by omega)⟩
   ·have hxs:P x=false:=by simpa using hxs
    simp only[KP,↓reduceIte,reduceEqDiff,reduceLT,reduceNeg,g2,hxs,V9 h]
    refine next _ _ ⟨rfl,(gE (by simp +decide only[GS,g1,g2,g10,aj]) (λj y hj hy=>?_))⟩
    rcases cj j i with g | g
    ·exact hp j y g hy
    ·obtain rfl:j=i:=by omega
     rw[hx]at hy;cases hy;exact hxs
  have hany:s.any P=true:=ek.2 ⟨x,af hx,hhi x (by omega)⟩
  by_cases h256:x<256
  ·simp only[KP,↓reduceIte,reduceEqDiff,reduceLT,reduceNeg,g1,g10,wZ,hx,h128,h256]
   refine aO (hP _ (Utf8.decode (sE s) i).1) ?_
   rintro u U ⟨rfl,rfl⟩
   have hxs:=hhi _ (R3 hx h128 h256)
   simp only[KP,↓reduceIte,reduceEqDiff,reduceLT,reduceNeg,g2,hxs,Kh h]
   exact⟨_,rfl,by rw[hany];exact AT (by omega)⟩
  ·simp only[KP,↓reduceIte,reduceEqDiff,reduceLT,reduceNeg,g1,g10,wZ,hx,h128,h256]
   refine aO (hP _ 65533) ?_
   rintro u U ⟨rfl,rfl⟩
   have hxs:=hhi _ (show 128<=65533 by omega)
   simp only[KP,↓reduceIte,reduceEqDiff,reduceLT,reduceNeg,g2,hxs,Kh h]
   exact⟨_,rfl,by rw[hany];exact AT (by omega)⟩
 ·rintro F U ⟨rfl,g1,g2,g10,hp⟩
  have hx:s[s.length]?=none:=gu (ae _)
  rw[aF]
  simp only[KP,↓reduceIte,reduceLT,reduceNeg,g10,wZ,hx]
  refine⟨-1,rfl,?_⟩
  rw[show s.any P=false from mq.2 λx hx=>by
   obtain⟨j,hj,e⟩:=fg hx
   rw[hp j x hj (by rw[BY hj,e])];simp]
  rfl
theorem Wz (h:bJ E) {s:bD}{k:Nat}{P:Nat->Bool}(hsm:s.length<=4294967296)(hP:∀(Z:Sg) (r:Nat),aC E k [.int .i32 (r:Int)] Z λu U=>U=Z/\u=.bool (P r))(hhi:∀r,128<=r->P r=true):aC E 300 [.str s,.fn k [] []] Z λv U=>U=Z/\∃n:Int,v=.int .i64 n/\decide (0<=n)=s.any P:=by
 have ef:=sH (E:=E) (k:=k) (caps:=[]) (λ_ h=>by cases h) Z
 rw[aH h.ZD h.Xe h.aar h.YM (args':=[.str s,.fn k [] []]) (by simp only[aU,dD,ef]),aX (by kernel_rfl)]
 simp only[aA,Tryz.f300,KP,↓reduceIte,reduceEqDiff,reduceLT,reduceAdd,reduceCtorEq]
 refine aO (b_xF h hsm hP hhi) ?_
 rintro v U ⟨rfl,n,rfl,hn⟩
 simp only[KP,↓reduceIte,reduceLT]
 exact⟨n,rfl,hn⟩
theorem TX (h:bJ E) {s:bD}{k:Nat}{P:Nat->Bool}(hsm:s.length<=4294967296)(hP:∀(Z:Sg) (r:Nat),aC E k [.int .i32 (r:Int)] Z λu U=>U=Z/\u=.bool (P r))(hhi:∀r,128<=r->P r=true):aC E 264 [.str s,.fn k [] []] Z K=K (.bool (s.any P)) Z:=by
 refine aC.of ?_
 have ef:=sH (E:=E) (k:=k) (caps:=[]) (λ_ h=>by cases h) Z
 rw[aH h.ZG h.Xi h.aau h.YP (args':=[.str s,.fn k [] []]) (by simp only[aU,dD,ef]),aX (by kernel_rfl)]
 simp only[aA,Tryz.f264,KP,↓reduceIte,reduceEqDiff,reduceLT,reduceAdd,reduceCtorEq]
 refine aO (Wz h hsm hP hhi) ?_
 rintro v U ⟨rfl,n,rfl,hn⟩
 simp only[KP,↓reduceIte,reduceLT,hn]
 exact rfl
theorem abS (h:bJ E) {p:bD}(hsm:p.length<=4294967296):aC E 237 [.str p] Z K=K (.bool (!sO p)) Z:=by
 refine aC.of ?_
 rw[aH h.ZI h.Xk h.aaw h.YR (args':=[.str p]) (by simp only[aU,dD]),aX (by kernel_rfl)]
 by_cases h1:p=[]
 ·have q1:=gC h1
  simp only[aA,Tryz.f237,KP,↓reduceIte,reduceEqDiff,reduceLT,reduceCtorEq,kX,q1]
  rw[Aq (.inl h1)]
  exact rfl
 have q1:=fU h1
 by_cases h2:p=[46]
 ·have q2:=gC h2
  simp only[aA,Tryz.f237,KP,↓reduceIte,reduceEqDiff,reduceLT,reduceCtorEq,kX,NF,q1,q2]
  rw[Aq (.inr (.inl h2))]
  exact rfl
 have q2:=fU h2
 by_cases h3:p=[46,46]
 ·have q3:=gC h3
  simp only[aA,Tryz.f237,KP,↓reduceIte,reduceEqDiff,reduceLT,reduceCtorEq,kX,NF,TE,q1,q2,q3]
  rw[Aq (.inr (.inr h3))]
  exact rfl
 have q3:=fU h3
 have kc:=λ(U:Sg)=>cH (λK=>TX (Z:=U) (K:=K) (s:=p) (k:=265) (P:=λc=>!sign c) h hsm (λU r=>by rw[NU h];exact⟨rfl,rfl⟩) (λr hr=>by rw[HN hr];rfl))
 simp only[aA,Tryz.f237,KP,↓reduceIte,reduceEqDiff,reduceLT,reduceCtorEq,kX,NF,TE,q1,q2,q3,kc]
 rw[JU h1 h2 h3,k9]
 exact rfl
theorem AE:∀l:List bD,dS aM.P (l.map λp=>[V.str p]) l
 | []=>.nil
 |_::l=>.cons rfl (AE l)
theorem Q9 (h:bJ E) {s:bD}(hsm:s.length<=1000000000):aC E 236 [.str s] Z λv U=>U=Z/\iO aM v (cO 47 s):=by
 rw[aH h.ZJ h.Xl h.aax h.YS (args':=[.str s]) (by simp only[aU,dD]),aX (by kernel_rfl)]
 have hs:kH [.str s,.str [47]]=some (.bT false ((cO 47 s).map λp=>[V.str p]) true):=by
  unfold kH
  exact b8 (by omega)
 have iv:iO aM (.bT false ((cO 47 s).map λp=>[V.str p]) true) (cO 47 s):=.inr ⟨_,_,rfl,AE _⟩
 have h5:∀Z,bW Z E.ty false (.bT false ((cO 47 s).map λp=>[V.str p]) true)=some (.bT false ((cO 47 s).map λp=>[V.str p]) true):=λZ=>(show bW Z E.ty false (.bT false ((cO 47 s).map λp=>[V.str p]) true)=aQ Z E.ty false (.bT false ((cO 47 s).map λp=>[V.str p]) true) from rfl).trans (cU iv.is.bF iv.tag)
 have kc:=λ(U:Sg)=>cH (λK=>qC (Z:=U) (K:=K) (args:=[.str s,.str [47]]) (args':=[.str s,.str [47]]) h.ZT h.Xv (by simp only[aU,dD]) hs (h5 []))
 have hb:Ax.bytes ⟨#[47]⟩=[47]:=rfl
 simp only[aA,Tryz.f236,KP,↓reduceIte,reduceLT,reduceCtorEq,kc,h5,hb]
 exact iv
theorem Gi {s:bD}(h:¬ s.length<=40):bL s=false:=by unfold bL;rw[AI h];simp
theorem qH {s:bD}(h:pD s=true):bL s=false:=by unfold bL;rw[h];rfl
theorem abT (h:bJ E) {s:bD}:aC E 199 [.str s] Z K=K (.bool (bL s)) Z:=by
 refine aC.of ?_
 rw[aH h.ZQ h.Xs h.aaE h.YZ (args':=[.str s]) (by simp only[aU,dD]),aX (by kernel_rfl)]
 by_cases w0:s=[114,117,108,101]
 ·have e0:=gC w0
  simp only[aA,Tryz.f199,KP,↓reduceIte,reduceLT,reduceCtorEq,DG,e0]
  rw[qH (by rw[w0];rfl)]
  exact rfl
 have e0:=fU w0
 by_cases w1:s=[105,110]
 ·have e1:=gC w1
  simp only[aA,Tryz.f199,KP,↓reduceIte,reduceEqDiff,reduceLT,reduceCtorEq,DG,GH,e0,e1]
  rw[qH (by rw[w1];rfl)]
  exact rfl
 have e1:=fU w1
 by_cases w2:s=[111,117,116]
 ·have e2:=gC w2
  simp only[aA,Tryz.f199,KP,↓reduceIte,reduceEqDiff,reduceLT,reduceCtorEq,DG,GH,Kn,e0,e1,e2]
  rw[qH (by rw[w2];rfl)]
  exact rfl
 have e2:=fU w2
 by_cases w3:s=[97,102,116,101,114]
 ·have e3:=gC w3
  simp only[aA,Tryz.f199,KP,↓reduceIte,reduceEqDiff,reduceLT,reduceCtorEq,DG,GH,Kn,QE,e0,e1,e2,e3]
  rw[qH (by rw[w3];rfl)]
  exact rfl
 have e3:=fU w3
 by_cases h40:s.length<=40
 case neg=>
  have q1:decide ((s.length:Int)<=40)=false:=AI (by omega)
  rw[Gi h40]
  simp only[aA,Tryz.f199,KP,↓reduceIte,reduceEqDiff,reduceLT,reduceCtorEq,gF h,DG,GH,Kn,QE,e0,e1,e2,e3,q1]
  exact rfl
 have q1:decide ((s.length:Int)<=40)=true:=AT (by omega)
 have hr:pD s=false:=by unfold pD;rw[AI w0,AI w1,AI w2,AI w3];rfl
 rw[PJ hr h40]
 simp only[aA,Tryz.f199,KP,↓reduceIte,reduceEqDiff,reduceLT,reduceCtorEq,gF h,DG,GH,Kn,QE,e0,e1,e2,e3,q1]
 refine aO (Q9 h (by omega)) ?_
 rintro v σ' ⟨rfl,hv⟩
 have hPl:=sG 47 s
 have hPp:=uK (s:=s) rfl
 generalize cO 47 s=P at *
 have kc:=λ(U:Sg)=>LP (Z:=U) (k:=237) (caps:=[]) (P:=λp=>!sO p) h (hv.is.ls U 9) (by omega) (λ_ h=>by cases h) (λy v hy hv=>by
  subst hv
  have:=hPp y hy
  show aC E 237 [.str y] [] _
  rw[abS h (by omega)];exact⟨rfl,rfl⟩)
 simp only[KP,↓reduceIte,reduceEqDiff,reduceLT,kc]
 rw[<- k9,Bool.not_not]
 exact rfl
theorem ZA (h:bJ E) {s:bD}:KC E 199 [.str s] Z (.bool (bL s)) Z:=cH λ_=>abT h
end
end
section
section
variable {E:Env}{Z:Sg}{K:V->Sg->Prop}
theorem Q8 (h:bJ E) {p:Int}:aC E 183 [.int .i64 p] Z K=K (.gB [.int .i64 ((counts p).1:Nat),.int .i64 ((counts p).2.1:Nat),.int .i64 ((counts p).2.2:Nat)]) Z:=by
 refine aC.of ?_
 rw[aH h.ZV h.Xx h.aaI h.Y3 (args':=[.int .i64 p]) (by simp only[aU,show aQ Z E.ty true (.int .i64 p)=some (.int .i64 p) from rfl]),aX (by kernel_rfl)]
 by_cases p5:p=5
 ·have q5:decide (p=5)=true:=AT p5
  simp only[aA,Tryz.f183,KP,↓reduceIte,reduceEqDiff,reduceLT,reduceCtorEq,q5]
  rw[p5]
  exact rfl
 have q5:decide (p=5)=false:=AI p5
 by_cases p6:p=6
 ·have q6:decide (p=6)=true:=AT p6
  simp only[aA,Tryz.f183,KP,↓reduceIte,reduceEqDiff,reduceLT,reduceCtorEq,q5,q6]
  rw[p6]
  exact rfl
 have q6:decide (p=6)=false:=AI p6
 by_cases p7:p=7
 ·have q7:decide (p=7)=true:=AT p7
  simp only[aA,Tryz.f183,KP,↓reduceIte,reduceEqDiff,reduceLT,reduceCtorEq,q5,q6,q7]
  rw[p7]
  exact rfl
 have q7:decide (p=7)=false:=AI p7
 by_cases p8:p=8
 ·have q8:decide (p=8)=true:=AT p8
  simp only[aA,Tryz.f183,KP,↓reduceIte,reduceEqDiff,reduceLT,reduceCtorEq,q5,q6,q7,q8]
  rw[p8]
  exact rfl
 have q8:decide (p=8)=false:=AI p8
 have e:counts p=(1,1,0):=by unfold counts;rw[ay p5,ay p6,ay p7,ay p8]
 rw[e]
 simp only[aA,Tryz.f183,KP,↓reduceIte,reduceEqDiff,reduceLT,reduceCtorEq,q5,q6,q7,q8]
 exact rfl
theorem Qe (h:bJ E) {p:Int}:KC E 183 [.int .i64 p] Z (.gB [.int .i64 ((counts p).1:Nat),.int .i64 ((counts p).2.1:Nat),.int .i64 ((counts p).2.2:Nat)]) Z:=cH λ_=>Q8 h
theorem NV (h:bJ E) {s:bD}:aC E 184 [.str s] Z K=K (.bool (decide (100<s.length))) Z:=by
 refine aC.of ?_
 rw[aH h.ZU h.Xw h.aaH h.Y2 (args':=[.str s]) (by simp only[aU,dD]),aX (by kernel_rfl)]
 simp only[aA,Tryz.f184,KP,↓reduceIte,reduceLT,reduceCtorEq,gF h]
 rw[show decide ((100:Int)<(s.length:Int))=decide (100<s.length) from by rw[nh];omega]
 exact rfl
theorem HU {x:AxS.Step}:cJ x=true ↔ ((1<=x.op/\x.op<=9)/\((counts x.op).1<=x.args.length/\x.args.length<=(counts x.op).2.1))/\x.lits.length=(counts x.op).2.2/\(x.lits.any λl=>decide (100<l.length))=false/\(x.op=8->x.lits.head?≠some [])/\(0<=x.n/\x.n<=2000)/\(x.op=9\/x.n=0):=by
 have e:x.lits.all (λl=>decide (l.length<=100)) = !(x.lits.any λl=>decide (100<l.length)):=by
  rw[List.not_any_eq_all_not]
  congr 1
  funext l
  rw[<- decide_not,nh]
  omega
 unfold cJ
 rw[e]
 simp only[ah,IT,and_assoc,fm]
theorem rI {x:AxS.Step}(h:¬ (cJ x=true)):cJ x=false:=by simpa using h
theorem NS (h:bJ E) {v:V}{x:AxS.Step}(hv:KG v x)(hsm:x.lits.length<=4294967296):aC E 150 [v] Z K=K (.bool (cJ x)) Z:=by
 refine aC.of ?_
 have ev:=hv.snap (E:=E) Z
 obtain⟨a,b,rfl,ia,ib⟩:=hv
 have hoka:a.aW=true:=aL ia.bF
 have hokb:b.aW=true:=aL ib.bF
 rw[aH h.Z4 h.XG h.aaQ h.Za (args':=[.agg [.str x.out,.int .i64 x.op,a,b,.int .i64 x.n]]) (by simp only[aU,ev]),aX (by kernel_rfl)]
 have la:=bP h ia
 have lb:=bP h ib
 have hm:=HU (x:=x)
 have kc:=λ(U:Sg)=>Qe (Z:=U) h (p:=x.op)
 have kl:=λ(U:Sg)=>LP (Z:=U) (k:=184) (caps:=[]) (P:=λl=>decide (100<l.length)) h (ib.ls U 9) hsm (λ_ h=>by cases h) (λy v hy hv=>by
  subst hv
  show aC E 184 [.str y] [] _
  rw[NV h];exact⟨rfl,rfl⟩)
 have h8:x.op=8->(counts x.op).2.2=2:=λe=>by rw[e];rfl
 generalize (counts x.op).1=A at *
 generalize (counts x.op).2.1=B at *
 generalize (counts x.op).2.2=C at *
 by_cases p1:1<=x.op
 case neg=>
  have q1:decide (x.op<1)=true:=AT (by omega)
  rw[rI (mt hm.1 λhh=>by omega)]
  simp only[aA,Tryz.f150,KP,Ax.loadAt,↓reduceIte,reduceEqDiff,reduceLT,reduceAdd,reduceCtorEq,h.oU,h.cN,kc,hoka,hokb,q1]
  exact rfl
 have q1:decide (x.op<1)=false:=AI (by omega)
 by_cases p2:x.op<=9
 case neg=>
  have q2:decide ((9:Int)<x.op)=true:=AT (by omega)
  rw[rI (mt hm.1 λhh=>by omega)]
  simp only[aA,Tryz.f150,KP,Ax.loadAt,↓reduceIte,reduceEqDiff,reduceLT,reduceAdd,reduceCtorEq,h.oU,h.cN,kc,hoka,hokb,q1,q2]
  exact rfl
 have q2:decide ((9:Int)<x.op)=false:=AI (by omega)
 by_cases p3:A<=x.args.length
 case neg=>
  have q3:decide ((x.args.length:Int)<(A:Int))=true:=AT (by omega)
  rw[rI (mt hm.1 λhh=>by omega)]
  simp only[aA,Tryz.f150,KP,Ax.loadAt,↓reduceIte,reduceEqDiff,reduceLT,reduceAdd,reduceCtorEq,h.oU,h.aY,h.cN,kc,la,hoka,hokb,q1,q2,q3]
  exact rfl
 have q3:decide ((x.args.length:Int)<(A:Int))=false:=AI (by omega)
 by_cases p4:x.args.length<=B
 case neg=>
  have q4:decide ((B:Int)<(x.args.length:Int))=true:=AT (by omega)
  rw[rI (mt hm.1 λhh=>by omega)]
  simp only[aA,Tryz.f150,KP,Ax.loadAt,↓reduceIte,reduceEqDiff,reduceLT,reduceAdd,reduceCtorEq,h.oU,h.aY,h.cN,kc,la,hoka,hokb,q1,q2,q3,q4]
  exact rfl
 have q4:decide ((B:Int)<(x.args.length:Int))=false:=AI (by omega)
 by_cases p5:x.lits.length=C
 case neg=>
  have q5:decide ((x.lits.length:Int)=(C:Int))=false:=AI (by omega)
  rw[rI (mt hm.1 λhh=>by omega)]
  simp only[aA,Tryz.f150,KP,Ax.loadAt,↓reduceIte,reduceEqDiff,reduceLT,reduceAdd,reduceCtorEq,h.oU,h.aY,h.cN,kc,la,lb,hoka,hokb,q1,q2,q3,q4,q5]
  exact rfl
 have q5:decide ((x.lits.length:Int)=(C:Int))=true:=AT (by omega)
 by_cases p6:(x.lits.any λl=>decide (100<l.length))=true
 ·rw[rI (mt hm.1 λhh=>by rw[p6]at hh;simp at hh)]
  simp only[aA,Tryz.f150,KP,Ax.loadAt,↓reduceIte,reduceEqDiff,reduceLT,reduceAdd,reduceCtorEq,h.oU,h.aY,h.cN,kc,kl,la,lb,hoka,hokb,q1,q2,q3,q4,q5,p6]
  exact rfl
 have q6:(x.lits.any λl=>decide (100<l.length))=false:=by simpa using p6
 by_cases p8:x.op=8
 ·have q8:decide (x.op=8)=true:=AT p8
  have hC:=h8 p8
  obtain⟨y,r,hyr⟩:=nj (show x.lits≠[] from λe=>by rw[e]at p5;simp at p5;omega)
  obtain⟨g,e1⟩:=gI h ib (i:=0) (x:=y) (by rw[hyr];rfl)
  have e1:indexAddr E 24 b (.int .i64 0)=some (.dH g [.str y]):=e1
  by_cases hy:y=[]
  ·have e2:=gC hy
   rw[rI (mt hm.1 λhh=>hh.2.2.2.1 p8 (by rw[hyr,hy];rfl))]
   simp only[aA,Tryz.f150,KP,Ax.loadAt,↓reduceIte,reduceEqDiff,reduceLT,reduceAdd,reduceCtorEq,h.oU,h.cM,h.aY,h.cN,kX,kc,kl,la,lb,hoka,hokb,q1,q2,q3,q4,q5,q6,q8,e1,e2]
   exact rfl
  have e2:=fU hy
  have hh8:x.op=8->x.lits.head?≠some []:=λ_=>by rw[hyr];simpa using hy
  by_cases p9:0<=x.n
  case neg=>
   have q9:decide (x.n<0)=true:=AT (by omega)
   rw[rI (mt hm.1 λhh=>by omega)]
   simp only[aA,Tryz.f150,KP,Ax.loadAt,↓reduceIte,reduceEqDiff,reduceLT,reduceAdd,reduceCtorEq,h.oU,h.cM,h.aY,h.cN,kX,kc,kl,la,lb,hoka,hokb,q1,q2,q3,q4,q5,q6,q8,e1,e2,q9]
   exact rfl
  have q9:decide (x.n<0)=false:=AI (by omega)
  by_cases p10:x.n<=2000
  case neg=>
   have GW:decide ((2000:Int)<x.n)=true:=AT (by omega)
   rw[rI (mt hm.1 λhh=>by omega)]
   simp only[aA,Tryz.f150,KP,Ax.loadAt,↓reduceIte,reduceEqDiff,reduceLT,reduceAdd,reduceCtorEq,h.oU,h.cM,h.aY,h.cN,kX,kc,kl,la,lb,hoka,hokb,q1,q2,q3,q4,q5,q6,q8,e1,e2,q9,GW]
   exact rfl
  have GW:decide ((2000:Int)<x.n)=false:=AI (by omega)
  by_cases p11:x.op=9
  ·have Jg:decide (x.op=9)=true:=AT p11
   rw[hm.2 ⟨⟨⟨p1,p2⟩,p3,p4⟩,p5,q6,hh8,⟨p9,p10⟩,.inl p11⟩]
   simp only[aA,Tryz.f150,KP,Ax.loadAt,↓reduceIte,reduceEqDiff,reduceLT,reduceAdd,reduceCtorEq,h.oU,h.cM,h.aY,h.cN,kX,kc,kl,la,lb,hoka,hokb,q1,q2,q3,q4,q5,q6,q8,e1,e2,q9,GW,Jg]
   exact rfl
  have Jg:decide (x.op=9)=false:=AI p11
  by_cases Vp:x.n=0
  case neg=>
   have Oa:decide (x.n=0)=false:=AI (by omega)
   rw[rI (mt hm.1 λhh=>by omega)]
   simp only[aA,Tryz.f150,KP,Ax.loadAt,↓reduceIte,reduceEqDiff,reduceLT,reduceAdd,reduceCtorEq,h.oU,h.cM,h.aY,h.cN,kX,kc,kl,la,lb,hoka,hokb,q1,q2,q3,q4,q5,q6,q8,e1,e2,q9,GW,Jg,Oa]
   exact rfl
  have Oa:decide (x.n=0)=true:=AT (by omega)
  rw[hm.2 ⟨⟨⟨p1,p2⟩,p3,p4⟩,p5,q6,hh8,⟨p9,p10⟩,.inr Vp⟩]
  simp only[aA,Tryz.f150,KP,Ax.loadAt,↓reduceIte,reduceEqDiff,reduceLT,reduceAdd,reduceCtorEq,h.oU,h.cM,h.aY,h.cN,kX,kc,kl,la,lb,hoka,hokb,q1,q2,q3,q4,q5,q6,q8,e1,e2,q9,GW,Jg,Oa]
  exact rfl
 ·have q8:decide (x.op=8)=false:=AI p8
  have hh8:x.op=8->x.lits.head?≠some []:=λe=>absurd e p8
  by_cases p9:0<=x.n
  case neg=>
   have q9:decide (x.n<0)=true:=AT (by omega)
   rw[rI (mt hm.1 λhh=>by omega)]
   simp only[aA,Tryz.f150,KP,Ax.loadAt,↓reduceIte,reduceEqDiff,reduceLT,reduceAdd,reduceCtorEq,h.oU,h.aY,h.cN,kc,kl,la,lb,hoka,hokb,q1,q2,q3,q4,q5,q6,q8,q9]
   exact rfl
  have q9:decide (x.n<0)=false:=AI (by omega)
  by_cases p10:x.n<=2000
  case neg=>
   have GW:decide ((2000:Int)<x.n)=true:=AT (by omega)
   rw[rI (mt hm.1 λhh=>by omega)]
   simp only[aA,Tryz.f150,KP,Ax.loadAt,↓reduceIte,reduceEqDiff,reduceLT,reduceAdd,reduceCtorEq,h.oU,h.aY,h.cN,kc,kl,la,lb,hoka,hokb,q1,q2,q3,q4,q5,q6,q8,q9,GW]
   exact rfl
  have GW:decide ((2000:Int)<x.n)=false:=AI (by omega)
  by_cases p11:x.op=9
  ·have Jg:decide (x.op=9)=true:=AT p11
   rw[hm.2 ⟨⟨⟨p1,p2⟩,p3,p4⟩,p5,q6,hh8,⟨p9,p10⟩,.inl p11⟩]
   simp only[aA,Tryz.f150,KP,Ax.loadAt,↓reduceIte,reduceEqDiff,reduceLT,reduceAdd,reduceCtorEq,h.oU,h.aY,h.cN,kc,kl,la,lb,hoka,hokb,q1,q2,q3,q4,q5,q6,q8,q9,GW,Jg]
   exact rfl
  have Jg:decide (x.op=9)=false:=AI p11
  by_cases Vp:x.n=0
  case neg=>
   have Oa:decide (x.n=0)=false:=AI (by omega)
   rw[rI (mt hm.1 λhh=>by omega)]
   simp only[aA,Tryz.f150,KP,Ax.loadAt,↓reduceIte,reduceEqDiff,reduceLT,reduceAdd,reduceCtorEq,h.oU,h.aY,h.cN,kc,kl,la,lb,hoka,hokb,q1,q2,q3,q4,q5,q6,q8,q9,GW,Jg,Oa]
   exact rfl
  have Oa:decide (x.n=0)=true:=AT (by omega)
  rw[hm.2 ⟨⟨⟨p1,p2⟩,p3,p4⟩,p5,q6,hh8,⟨p9,p10⟩,.inr Vp⟩]
  simp only[aA,Tryz.f150,KP,Ax.loadAt,↓reduceIte,reduceEqDiff,reduceLT,reduceAdd,reduceCtorEq,h.oU,h.aY,h.cN,kc,kl,la,lb,hoka,hokb,q1,q2,q3,q4,q5,q6,q8,q9,GW,Jg,Oa]
  exact rfl
theorem Ng (h:bJ E) {v:V}{x:AxS.Step}(hv:KG v x)(hsm:x.lits.length<=4294967296):KC E 150 [v] Z (.bool (cJ x)) Z:=cH λ_=>NS h hv hsm
end
end
section
section
variable {E:Env}{Z:Sg}{K:V->Sg->Prop}
theorem Fu (h:bJ E) {s:bD}:aC E 212 [.str s] Z K=K (.bool (!bL s)) Z:=by
 refine aC.of ?_
 rw[aH h.ZP h.Xr h.aaD h.YY (args':=[.str s]) (by simp only[aU,dD]),aX (by kernel_rfl)]
 have kc:=λ(U:Sg)=>ZA (Z:=U) h (s:=s)
 simp only[aA,Tryz.f212,KP,↓reduceIte,reduceLT,reduceCtorEq,kc]
 exact rfl
theorem E4 (h:bJ E) {s:bD}:KC E 212 [.str s] Z (.bool (!bL s)) Z:=cH λ_=>Fu h
theorem B5 (h:bJ E) {a:V}{l:List bD}(ha:LS aM 9 Z a l)(hsm:l.length<=4294967296):KC E 82 [a,.fn 212 [] []] Z (.bool (!(l.all bL))) Z:=cH λ_=>by rw[k9];exact Ml (k:=212) (caps:=[]) (P:=λs=>!bL s) h ha hsm (λ_ h=>by cases h) (λy v hy hv=>by subst hv;show aC E 212 [.str y] [] _;rw[Fu h];exact⟨rfl,rfl⟩)
def ME (s:AxS.Step):Bool:=bL s.out&&s.args.all bL&&cJ s
theorem TR (h:bJ E) {v:V}{x:AxS.Step}(hv:KG v x)(h1:x.args.length<=4294967296)(h2:x.lits.length<=4294967296):aC E 214 [v] Z K=K (.bool (!ME x)) Z:=by
 refine aC.of ?_
 have ev:=hv.snap (E:=E) Z
 obtain⟨a,b,rfl,ia,ib⟩:=hv
 have hoka:a.aW=true:=aL ia.bF
 have hokb:b.aW=true:=aL ib.bF
 rw[aH h.ZN h.Xp h.aaB h.YW (args':=[.agg [.str x.out,.int .i64 x.op,a,b,.int .i64 x.n]]) (by simp only[aU,ev]),aX (by kernel_rfl)]
 have k1:=λ(U:Sg)=>E4 (Z:=U) h (s:=x.out)
 have k2:=λ(U:Sg)=>B5 (Z:=U) h (ia.ls U 9) h1
 have k3:=λ(U:Sg)=>Ng (Z:=U) h (v:=.agg [.str x.out,.int .i64 x.op,a,b,.int .i64 x.n]) ⟨a,b,rfl,ia,ib⟩ h2
 unfold ME
 cases e1:bL x.out with
 |false=>
  simp only[aA,Tryz.f214,KP,Ax.loadAt,↓reduceIte,reduceEqDiff,reduceLT,reduceAdd,reduceCtorEq,h.cM,h.cN,hoka,hokb,k1,e1]
  exact rfl
 |true=>
  cases e2:x.args.all bL with
  |false=>
   simp only[aA,Tryz.f214,KP,Ax.loadAt,↓reduceIte,reduceEqDiff,reduceLT,reduceAdd,reduceCtorEq,h.cM,h.aY,h.cN,hoka,hokb,k1,k2,e1,e2]
   exact rfl
  |true=>
   simp only[aA,Tryz.f214,KP,Ax.loadAt,↓reduceIte,reduceEqDiff,reduceLT,reduceAdd,reduceCtorEq,h.cM,h.aY,h.cN,hoka,hokb,k1,k2,k3,e1,e2]
   exact rfl
theorem E_ (r:aD):kW r=(bL r.name&&decide (r.outs≠[])&&r.ins.all bL&&r.outs.all bL&&r.after.all bL&&r.steps.all ME):=rfl
theorem TQ (h:bJ E) {v:V}{x:aD}(hv:I9 v x)(hs:Small x):aC E 181 [v] Z K=K (.bool (kW x)) Z:=by
 refine aC.of ?_
 have ev:=hv.snap (E:=E) Z
 obtain⟨a,b,c,d,rfl,ia,ib,ic,id⟩:=hv
 have o1:=aL ia.bF
 have o2:=aL ib.bF
 have o3:=aL ic.bF
 have o4:=aL id.bF
 have l1:=hs.ins
 have l2:=hs.outs
 have l3:=hs.after
 have l4:=hs.steps
 rw[aH h.ZX h.Xz h.aaK h.Y5 (args':=[.agg [.str x.name,a,b,c,d]]) (by simp only[aU,ev]),aX (by kernel_rfl)]
 have lb:=bP h ib
 have kn:=λ(U:Sg)=>E4 (Z:=U) h (s:=x.name)
 have k1:=λ(U:Sg)=>B5 (Z:=U) h (ia.ls U 9) (by omega)
 have k2:=λ(U:Sg)=>B5 (Z:=U) h (ib.ls U 9) (by omega)
 have k3:=λ(U:Sg)=>B5 (Z:=U) h (ic.ls U 9) (by omega)
 have k4:=λ(U:Sg)=>Np (Z:=U) (k:=214) (caps:=[]) (P:=λs=>!ME s) h (id.ls U 82) (by omega) (λ_ h=>by cases h) (λy v hy hv=>by
  have hy1:=hs.args y hy
  have hy2:=hs.lits y hy
  show aC E 214 [v] [] _
  rw[TR h hv (by omega) (by omega)];exact⟨rfl,rfl⟩)
 rw[E_]
 cases e0:bL x.name with
 |false=>
  simp only[aA,Tryz.f181,KP,Ax.loadAt,↓reduceIte,reduceEqDiff,reduceLT,reduceAdd,reduceCtorEq,h.cM,h.bC,o1,o2,o3,o4,kn,e0]
  exact rfl
 |true=>
 by_cases h0:x.outs=[]
 ·have q0:decide ((x.outs.length:Int)=0)=true:=AT (by rw[h0];rfl)
  simp only[aA,Tryz.f181,KP,Ax.loadAt,↓reduceIte,reduceEqDiff,reduceLT,reduceAdd,reduceCtorEq,h.cM,h.aY,h.bC,o1,o2,o3,o4,kn,e0,lb,q0]
  rw[h0]
  exact rfl
 have q0:decide ((x.outs.length:Int)=0)=false:=AI (by have:=List.length_pos_iff.2 h0;omega)
 rw[show decide (x.outs≠[])=true from AT h0]
 have hf:Ax.fill (λj=>some (j*1,1)) (fG 3 [V.aB]) [(0,a),(1,b),(2,c)]=some [a,b,c]:=by
  rcases ia with⟨rfl,-⟩ | ⟨_,_,_,rfl,-⟩ <;> rcases ib with⟨rfl,-⟩ | ⟨_,_,_,rfl,-⟩ <;> rcases ic with⟨rfl,-⟩ | ⟨_,_,_,rfl,-⟩ <;> rfl
 have lz:∀Z,lenOf E Z 40 (.sl 1 0 3 none)=some 3:=λZ=>by unfold lenOf;rw[h.Om]
 have i0:indexAddr E 40 (.sl 1 0 3 none) (.int .i64 0)=some (.ref 1 0):=by unfold Ax.indexAddr;simp only[h.Om,h.aY];rfl
 have i1:indexAddr E 40 (.sl 1 0 3 none) (.int .i64 1)=some (.ref 1 1):=by unfold Ax.indexAddr;simp only[h.Om,h.aY];rfl
 have i2:indexAddr E 40 (.sl 1 0 3 none) (.int .i64 2)=some (.ref 1 2):=by unfold Ax.indexAddr;simp only[h.Om,h.aY];rfl
 have d0:decide ((0:Int)<((3:Nat):Int))=true:=rfl
 have d1:decide ((1:Int)<((3:Nat):Int))=true:=rfl
 have d2:decide ((2:Int)<((3:Nat):Int))=true:=rfl
 have d3:decide ((3:Int)<((3:Nat):Int))=false:=rfl
 have w1:wr .i64 1=1:=rfl
 have w2:wr .i64 2=2:=rfl
 have w3:wr .i64 3=3:=rfl
 simp only[aA,Tryz.f181,KP,Ax.loadAt,↓reduceIte,reduceEqDiff,reduceLT,reduceLeDiff,reduceAdd,reduceMul,reduceCtorEq,h.cM,h.aY,h.Om,h.bC,o1,o2,o3,o4,kn,e0,lb,q0,hf,lz]
 rw[aF]
 cases e1:x.ins.all bL with
 |false=>
  simp only[KP,Ax.loadAt,↓reduceIte,reduceEqDiff,reduceLT,h.aY,k1,e1,i0,d0]
  exact rfl
 |true=>
 simp only[KP,Ax.loadAt,↓reduceIte,reduceEqDiff,reduceLT,Int.reduceAdd,h.aY,k1,e1,w1,i0,d0]
 rw[aF]
 cases e2:x.outs.all bL with
 |false=>
  simp only[KP,Ax.loadAt,↓reduceIte,reduceEqDiff,reduceLT,h.aY,k2,e2,i1,d1]
  exact rfl
 |true=>
 simp only[KP,Ax.loadAt,↓reduceIte,reduceEqDiff,reduceLT,Int.reduceAdd,h.aY,k2,e2,w2,i1,d1]
 rw[aF]
 cases e3:x.after.all bL with
 |false=>
  simp only[KP,Ax.loadAt,↓reduceIte,reduceEqDiff,reduceLT,h.aY,k3,e3,i2,d2]
  exact rfl
 |true=>
 simp only[KP,Ax.loadAt,↓reduceIte,reduceEqDiff,reduceLT,Int.reduceAdd,h.aY,k3,e3,w3,i2,d2]
 rw[aF]
 have e4:x.steps.all ME = !(x.steps.any λs=>!ME s):=by rw[<- k9,Bool.not_not]
 rw[e4]
 simp only[KP,Ax.loadAt,↓reduceIte,reduceEqDiff,reduceLT,reduceCtorEq,h.fN,h.bC,k4,d3]
 exact rfl
theorem SJ (h:bJ E) {v:V}{x:aD}(hv:I9 v x)(hs:Small x):KC E 181 [v] Z (.bool (kW x)) Z:=cH λ_=>TQ h hv hs
end
end
section
section
variable {E:Env}{Z:Sg}{K:V->Sg->Prop}
theorem QN (h:bJ E) {a:V}{l:List bD}(ha:LS aM 9 Z a l)(hsm:l.length<=4294967296):aC E 215 [a] Z K=K (.bool (kZ l)) Z:=by
 refine aC.of ?_
 obtain⟨a',ea,ia⟩:=iP h ha
 rw[aH h.ZM h.Xo h.aaA h.YV (args':=[a']) (by simp only[aU,ea]),aX (by kernel_rfl)]
 have la:=bP h ia
 simp only[aA,Tryz.f215,KP,↓reduceIte,reduceLT,reduceCtorEq,la]
 refine aV (λi F U=>U=[]/\F.get 0=a'/\F.get 5=a'/\F.get 6=.int .i64 (l.length:Int)/\F.get 7=.int .i64 (i:Int)/\∀(j:Nat) (y:bD),j<i->l[j]?=some y->y ∉ l.take j) l.length ?_ ?_ l.length 0 _ _ (by omega) ⟨rfl,(fZ (by simp +decide only[GS,aj]) (λj y hj=>by omega))⟩
 ·rintro i F U hi ⟨rfl,g0,g5,g6,g7,hp⟩ next
  obtain⟨x,hx⟩:∃x,l[i]?=some x:=⟨_,BY hi⟩
  obtain⟨g,e1⟩:=gI h ia hx
  obtain⟨w,hw,iw⟩:=xQ h ia (b:=i) (by omega)
  have hlt:=eC hi
  have hadd:=bY i (by omega)
  have kc:=λ(U:Sg)=>Dd (Z:=U) h (s:=x) (iw.ls U 9) (by rw[bl];omega)
  rw[aF]
  by_cases hm:x∈l.take i
  ·have hs:=AT hm
   simp only[KP,Ax.loadAt,↓reduceIte,reduceEqDiff,reduceLT,reduceCtorEq,h.cM,g0,g5,g6,g7,hlt,e1,hw,kc,hs]
   rw[Cl hx hm]
   exact rfl
  ·have hs:=AI hm
   simp only[KP,Ax.loadAt,↓reduceIte,reduceEqDiff,reduceLT,reduceCtorEq,h.cM,g0,g5,g6,g7,hlt,e1,hw,kc,hs,hadd]
   refine next _ _ ⟨rfl,(fZ (by simp +decide only[GS,g0,g5,g6,aj]) (λj y hj hy=>?_))⟩
   rcases cj j i with g | g
   ·exact hp j y g hy
   ·obtain rfl:j=i:=by omega
    rw[hx]at hy;cases hy;exact hm
 ·rintro F U ⟨rfl,g0,g5,g6,g7,hp⟩
  have hlt:=eG (bg l.length)
  rw[aF]
  simp only[KP,↓reduceIte,reduceLT,g6,g7,hlt]
  rw[Af λj y hy=>hp j y (AS.1 hy).1 hy]
  exact rfl
theorem Dc (h:bJ E) {a:V}{l:List bD}(ha:LS aM 9 Z a l)(hsm:l.length<=4294967296):KC E 215 [a] Z (.bool (kZ l)) Z:=cH λ_=>QN h ha hsm
theorem DB (h:bJ E):kY E 24 true .aB .aB=some true:=by unfold kY;rw[h.aY]
theorem DA (h:bJ E) {g:Bool}{rs:List (List V)}{f:Bool}:kY E 24 true (.bT g rs f) .aB=some false:=by unfold kY;rw[h.aY]
theorem tN (h:bJ E) {a:V}{l:List bD} (ia:IS aM a l)(hl:l.length<=1000):aC E 91 [a] Z λv σ'=>bH aM 9 σ' v l/\Kp Z σ'/\∀b,aZ v=some b->Z.length<=b:=by
 rw[eD h.hs91 h.sp91 h.fn91 h.md91,aX (by kernel_rfl)]
 rcases ia with⟨rfl,rfl⟩ | ⟨g,rs,full,rfl,ha⟩
 ·simp only[aA,Tryz.f91,KP,↓reduceIte,reduceLT,reduceCtorEq,DB h]
  exact⟨.inl ⟨rfl,rfl⟩,λ_ _ h=>h,λb hb=>by cases hb⟩
 ·obtain⟨rs',e,ha'⟩:=mI (L:=aM) (x:=.bT g rs full) (l:=l) (.inr ⟨g,rs,full,rfl,ha⟩) (Z++[O.cells 9 [] true])
  obtain⟨w',τ',h1,h2,h3,h4,h5⟩:=iB (ats:=#[24,24]) (Z:=Z++[O.cells 9 [] true]) (w:=.sl Z.length 0 0 none) (l:=[]) (L:=aM) h.aY rfl h.cM rfl (by decide) (iD h) rfl (.inr ⟨Z.length,[],true,rfl,aR,.nil⟩) e ha' (cZ (b:=1000) (by decide) (by simp only[bf];omega))
  rw[cq]at h2
  simp only[aA,Tryz.f91,KP,↓reduceIte,reduceEqDiff,reduceLT,reduceLeDiff,reduceCtorEq,h.cM,h.aY,DA h,h1,Ax.fill,fG,fl]
  refine⟨h2,λc o hc=>h3 _ _ (aP hc) λe=>?_,λb hb=>?_⟩
  ·cases e
   exact absurd (AS.1 hc).1 (bg _)
  ·rcases h5 b hb with g | g
   ·cases g;exact ae _
   ·simp only[an,aa,bf]at g;omega
theorem Hr {Z:Sg}{ty:Nat->Option Ty}{g:Bool}{b n t m:Nat}{cs:List V}{ex:Bool}{i:Ty}(hb:Z[b]?=some (.cells t cs ex))(hty:ty t=some i)(hlen:n*i.size<=cs.length)
  (hi:∀c∈cs.take (n*i.size),Ax.bF c=true/\bU g c=true):∃full,bI Z ty g (m+2) (.sl b 0 n none)=some (.bT g (rows i.size n (cs.take (n*i.size))) full):=by
 have hm:aU (λv=>match bI Z ty g (m+1) v with
   |some v=>if bU g v then some v else Ax.no "snap: borrowed"
   |none=>none) ((cs.drop 0).take (n*i.size))=some (cs.take (n*i.size)):=by
  rw[eu]
  refine iS λx hx=>?_
  rw[gW (hi x hx).1]
  simp only[(hi x hx).2,b9]
 refine⟨ex&&decide (0<i.size)&&(0+n*i.size==cs.length),?_⟩
 rw[bI]
 simp only[hb,hty]
 rw[b8 (by omega)]
 exact au (λo=>match o with
  |some l=>some (V.bT g (rows i.size n l) (ex&&decide (0<i.size)&&(0+n*i.size==cs.length)))
  |none=>none) hm
theorem MJ (h:bJ E) {Z:Sg}{w:V}{l:List bD}{m:Nat} (ow:bH aM 9 Z w l):∃w',bI Z E.ty true (m+2) w=some w'/\IS aM w' l:=by
 rcases ow with⟨rfl,rfl⟩ | ⟨b,rs,ex,rfl,hb,ha⟩
 ·exact⟨.aB,rfl,.inl ⟨rfl,rfl⟩⟩
 ·have hfl:=Lay.flat ha
  have hfl:rs.flatten.length=l.length*1:=hfl
  have htk:rs.flatten.take (l.length*1)=rs.flatten:=ak (by omega)
  obtain⟨full,e⟩:=Hr (g:=true) (n:=l.length) (m:=m) hb h.cM (show l.length*1<=_ by omega) (λc hcm=>by
   rw[show rs.flatten.take (l.length*1)=rs.flatten from htk]at hcm
   obtain⟨r,hr,hcr⟩:=List.mem_flatten.1 hcm
   obtain⟨x,-,hp⟩:=ha.mem hr
   have:=aM.im r x hp c hcr
   exact⟨this,cF this⟩)
  refine⟨_,e,.inr ⟨true,rs,full,?_,ha⟩⟩
  show V.bT true (rows 1 l.length (rs.flatten.take (l.length*1))) full=_
  rw[htk,<- ha.len]
  exact au (λz=>V.bT true z full) (kK (sz:=1) rs (Lay.lens ha))
theorem xO {Z:Sg}{f k t:Nat}{cs cs':List V}{ex:Bool}(hb:Z[k]?=some (.cells t cs ex))(hm:aU (λv=>match bI Z E.ty true 11 v with
   |some v=>if bU true v then some v else Ax.no "snap: borrowed"
   |none=>none) cs=some cs'):aQ Z E.ty true (.fn f [] [.ref k 0])=some (.fn f [] [.dH true cs']):=by
 have e:bI Z E.ty true 12 (.ref k 0)=some (.dH true cs'):=by
  rw[bI]
  simp only[hb,eu]
  exact au (λo=>match o with
   |some l=>some (V.dH true l)
   |none=>none) hm
 have e1:aQ.one Z E.ty true (.ref k 0)=some (.dH true cs'):=by
  unfold aQ.one
  rw[show eE=12 from rfl,e]
  rfl
 simp only[aQ,aU,e1]
theorem Cz (h:bJ E) {Z:Sg}{w:V}{l:List bD}{f k t:Nat}{ex:Bool}(hb:Z[k]?=some (.cells t [w] ex)) (ow:bH aM 9 Z w l):∃w',aQ Z E.ty true (.fn f [] [.ref k 0])=some (.fn f [] [.dH true [w']])/\IS aM w' l:=by
 obtain⟨w',e,iw⟩:=MJ (m:=9) h ow
 refine⟨w',xO hb ?_,iw⟩
 simp only[aU,e,cF iw.bF,b9]
theorem JJ {Z:Sg}{f k t:Nat}{cs:List V}{ex:Bool}(hb:Z[k]?=some (.cells t cs ex))(hc:∀c∈cs,Ax.bF c=true):aQ Z E.ty true (.fn f [] [.ref k 0])=some (.fn f [] [.dH true cs]):=
 xO hb (iS λx hx=>by rw[show 11=10+1 from rfl,gW (hc x hx)];simp only[cF (hc x hx),b9])
theorem IW (h:bJ E) {w:V}{l:List bD}{y:bD}{g:Bool} (iw:IS aM w l)(hsm:l.length<=4294967296):aC E 216 [.str y,.dH g [w]] [] K=K (.bool (!decide (y∈l))) []:=by
 refine aC.of ?_
 have hi:Ax.bF (.dH g [w])=true:=rfl
 have ew:=cU (Z:=[]) (ty:=E.ty) hi (cF hi)
 rw[aH h.ZL h.Xn h.aaz h.YU (args':=[.str y,.dH g [w]]) (by simp only[aU,dD,ew]),aX (by kernel_rfl)]
 have kc:=λ(U:Sg)=>Dd (Z:=U) h (s:=y) (iw.ls U 9) hsm
 simp only[aA,Tryz.f216,KP,Ax.loadAt,↓reduceIte,reduceEqDiff,reduceLT,reduceAdd,reduceCtorEq,h.aY,kc]
 exact rfl
theorem QX (h:bJ E) {a b c d:V}{l:List bD}{n y:bD}{g:Bool} (ia:IS aM a l)(hb:Ax.bF b=true)(hc:Ax.bF c=true)(hd:Ax.bF d=true)(hsm:l.length<=4294967296):aC E 217 [.str y,.dH g [.str n,a,b,c,d]] [] K=K (.bool (decide (y∈l))) []:=by
 refine aC.of ?_
 have hi:Ax.bF (.dH g [.str n,a,b,c,d])=true:=rfl
 have ew:=cU (Z:=[]) (ty:=E.ty) hi (cF hi)
 rw[aH h.ZK h.Xm h.aay h.YT (args':=[.str y,.dH g [.str n,a,b,c,d]]) (by simp only[aU,dD,ew]),aX (by kernel_rfl)]
 have kc:=λ(U:Sg)=>Dd (Z:=U) h (s:=y) (ia.ls U 9) hsm
 simp only[aA,Tryz.f217,KP,Ax.loadAt,↓reduceIte,reduceEqDiff,reduceLT,reduceAdd,reduceCtorEq,h.aY,h.bC,kc]
 exact rfl
end
end
section
section
variable {E:Env}{Z:Sg}{K:V->Sg->Prop}
theorem bH.set {Z:Sg}{w:V}{l:List bD}{k:Nat}{y:O} (ow:bH aM 9 Z w l)(hk:aZ w≠some k):bH aM 9 (Z.set k y) w l:=ow.keep λc o hc ho=>by
 rw[OF (λe=>hk (by rw[e];exact hc))]
 exact ho
theorem PG (h:bJ E) {x:aD}{a b c d:V} (ia:IS aM a x.ins) (ib:IS aM b x.outs) (id:IS eK d x.steps)(hs:Small x) {kb:Nat}{U:Sg}{w:V} (b0:U[0]?=some (O.cells 46 [.str x.name,a,b,c,d] true)) (k0:U[kb]?=some (.cells 24 [w] true)) (ow:bH aM 9 U w x.ins) (F:FT) (g1:F.get 1=.ref 0 0) (g3:F.get 3=.ref kb 0) (g4:F.get 4=.fn 216 [] [.ref kb 0])
  (hk:∀σ',K (.bool (iM x.ins x.steps&&x.outs.all λo=>decide (o∈x.ins++x.steps.map Step.out))) σ'):R E (cutAt [1,1,1,1,1] (aA Tryz.f182).code) [] ⟨63,F⟩ U (mQ E (aA Tryz.f182).results K):=by
 have l1:=hs.ins
 have l2:=hs.outs
 have l4:=hs.steps
 have ld:=jJ h id
 simp only[aA,Tryz.f182,KP,Ax.loadAt,↓reduceIte,reduceLT,reduceCtorEq,h.fN,h.bC,cutAt,g1,b0,ld]
 refine aV (λi F U=>F.get 1=.ref 0 0/\F.get 3=.ref kb 0/\F.get 4=.fn 216 [] [.ref kb 0]/\F.get 36=d/\F.get 37=.int .i64 (x.steps.length:Int)/\F.get 38=.int .i64 (i:Int)/\U[0]?=some (O.cells 46 [.str x.name,a,b,c,d] true)/\∃w,U[kb]?=some (.cells 24 [w] true)/\bH aM 9 U w (x.ins++(x.steps.take i).map Step.out)/\iM x.ins x.steps=iM (x.ins++(x.steps.take i).map Step.out) (x.steps.drop i)) x.steps.length ?_ ?_ x.steps.length 0 _ _ (by omega) (Bt (by simp +decide only[GS,g1,g3,g4,aj]) ⟨b0,w,k0,by simpa using ow,by simp⟩)
 ·rintro i F U hi ⟨g1,g3,g4,g36,g37,g38,b0,w,k0,ow,hst⟩ next
  obtain⟨s,hsi⟩:∃y,x.steps[i]?=some y:=⟨_,BY hi⟩
  obtain⟨g,p1,p2,e1,i1,i2⟩:=qM h id hsi
  have a8:=hs.args s (af hsi)
  have o1:=aL i1.bF
  have o2:=aL i2.bF
  have hlt:=eC hi
  have hadd:=bY i (by omega)
  have hdrop:x.steps.drop i=s::x.steps.drop (i+1):=by
   obtain⟨hj,rfl⟩:=AS.1 hsi
   exact List.drop_eq_getElem_cons hj
  have htake:x.ins++(x.steps.take (i+1)).map Step.out=x.ins++(x.steps.take i).map Step.out++[s.out]:=by
   rw[dh,hsi];simp
  have hkl:(x.ins++(x.steps.take i).map Step.out).length<=100:=by
   rw[an,az,bl];omega
  rw[hdrop,iM]at hst
  rw[htake]at next
  generalize x.ins++(x.steps.take i).map Step.out=kn at *
  rw[hst]at hk
  have b1:=aP (x:=O.cells 82 [.str s.out,.int .i64 s.op,p1,p2,.int .i64 s.n] true) b0
  have k1:=aP (x:=O.cells 82 [.str s.out,.int .i64 s.op,p1,p2,.int .i64 s.n] true) k0
  have s1:(U++[O.cells 82 [.str s.out,.int .i64 s.op,p1,p2,.int .i64 s.n] true])[U.length]?=some (O.cells 82 [.str s.out,.int .i64 s.op,p1,p2,.int .i64 s.n] true):=aR
  have ow1:=ow.app [O.cells 82 [.str s.out,.int .i64 s.op,p1,p2,.int .i64 s.n] true]
  rw[aF]
  simp only[KP,Ax.loadAt,Ax.storeAt,↓reduceIte,reduceEqDiff,reduceLT,reduceAdd,h.aY,h.cN,g3,g36,g37,g38,hlt,e1,o1,o2,aR,dR]
  generalize U++[O.cells 82 [.str s.out,.int .i64 s.op,p1,p2,.int .i64 s.n] true]=τ1 at *
  generalize U.length=y at *
  have kc:=Dd (Z:=τ1) h (s:=s.out) ow1.ls (by omega)
  obtain⟨w',es,iw⟩:=Cz (f:=216) h k1 ow1
  have kf:=cH (λK=>rW (Z:=τ1) (K:=K) (k:=216) (caps:=[.dH true [w']]) (P:=λy=>!decide (y∈kn)) h (i1.ls τ1 9) (by omega) (λc hc=>by cases hc with | head=>rfl | tail _ hc=>cases hc) (λy v hy hv=>by
   subst hv
   show aC E 216 [.str y,.dH true [w']] [] _
   rw[IW h iw (by omega)];exact⟨rfl,rfl⟩) es)
  by_cases m1:s.out∈kn
  ·have q1:=AT m1
   rw[q1]at hk
   simp only[KP,Ax.loadAt,↓reduceIte,reduceEqDiff,reduceLT,reduceCtorEq,h.cM,h.cN,k1,s1,kc,q1]
   exact hk _
  have q1:=AI m1
  cases m2:s.args.any λy=>!decide (y∈kn) with
  |true=>
   rw[show s.args.all (λa=>decide (a∈kn))=false from by rw[<- fm,k9,m2],Bool.and_false,mj,mj]at hk
   simp only[KP,Ax.loadAt,↓reduceIte,reduceEqDiff,reduceLT,reduceCtorEq,h.cM,h.aY,h.cN,g4,k1,s1,kc,kf,q1,m2]
   exact hk _
  |false=>
  rw[q1,show s.args.all (λa=>decide (a∈kn))=true from by rw[<- Bool.not_eq_false',k9,m2],mh,iz,iz]at hst
  have b2:=aP (x:=O.cells 9 [.str s.out] true) b1
  have k2:=aP (x:=O.cells 9 [.str s.out] true) k1
  obtain⟨w2,τ2,ha2,ow2,JC,-,fr2⟩:=iB (ats:=#[24,24]) (m:=[s.out]) (new:=[[.str s.out]]) h.aY rfl h.cM rfl (by decide) (iD h) rfl (ow1.app [.cells 9 [.str s.out] true]) (kO rfl) (.one rfl) (cZ (b:=1000) (by decide) (by simp only[aa,bf];omega))
  have nk:=kV (w:=w) k2 (by decide) (ow1.app [.cells 9 [.str s.out] true])
  have n0:=kV (w:=w) b2 (by decide) (ow1.app [.cells 9 [.str s.out] true])
  have k3:=JC _ _ k2 nk
  have b3:=JC _ _ b2 n0
  have nk2:aZ w2≠some kb:=kV k3 (by decide) ow2
  obtain⟨c1,c2⟩:=rG ow2
  have hkb:kb≠0:=λe=>by
   rw[e,b0]at k0
   cases k0
  have hlen:=(AS.1 k3).1
  simp only[KP,Ax.loadAt,Ax.storeAt,↓reduceIte,reduceEqDiff,reduceLT,reduceLeDiff,reduceMul,reduceCtorEq,h.cM,h.aY,h.cN,g3,g4,g38,k1,s1,kc,kf,q1,m2,lB,ha2,k3,c1,c2,hadd]
  refine next _ _ ⟨?_,?_,?_,?_,?_,?_,?_,w2,?_,?_,?_⟩
  ·exact (by simp +decide only[GS,g1])
  ·exact (by simp +decide only[GS,g3])
  ·exact (by simp +decide only[GS,g4])
  ·exact (by simp +decide only[GS,g36])
  ·exact (by simp +decide only[GS,g37])
  ·exact (by simp +decide only[GS])
  ·rw[OF hkb];exact b3
  ·rw[bp hlen]
  ·exact bH.set ow2 nk2
  ·exact hst
 ·rintro F U ⟨g1,g3,g4,g36,g37,g38,b0,w,k0,ow,hst⟩
  rw[ak (ae _)]at ow hst
  rw[show x.steps.drop x.steps.length=[] from List.drop_length,iM]at hst
  have hkl:(x.ins++x.steps.map Step.out).length<=100:=by
   rw[an,az];omega
  generalize x.ins++x.steps.map Step.out=kn at *
  obtain⟨w',es,iw⟩:=Cz (f:=216) h k0 ow
  have kf:=cH (λK=>rW (Z:=U) (K:=K) (k:=216) (caps:=[.dH true [w']]) (P:=λy=>!decide (y∈kn)) h (ib.ls U 9) (by omega) (λc hc=>by cases hc with | head=>rfl | tail _ hc=>cases hc) (λy v hy hv=>by
   subst hv
   show aC E 216 [.str y,.dH true [w']] [] _
   rw[IW h iw (by omega)];exact⟨rfl,rfl⟩) es)
  have hlt:=eG (bg x.steps.length)
  rw[hst,iz]at hk
  have e:(x.outs.all λo=>decide (o∈kn)) = !(x.outs.any λy=>!decide (y∈kn)):=by rw[<- k9,Bool.not_not]
  rw[e]at hk
  rw[aF]
  simp only[KP,Ax.loadAt,↓reduceIte,reduceEqDiff,reduceLT,reduceCtorEq,h.aY,h.bC,g1,g4,g37,g38,hlt,b0,kf]
  exact hk _
theorem TN (h:bJ E) {v:V}{x:aD}(hv:I9 v x)(hs:Small x):aC E 182 [v] Z K=K (.bool (fV x)) Z:=by
 refine aC.of ?_
 have ev:=hv.snap (E:=E) Z
 obtain⟨a,b,c,d,rfl,ia,ib,ic,id⟩:=hv
 have o1:=aL ia.bF
 have o2:=aL ib.bF
 have o3:=aL ic.bF
 have o4:=aL id.bF
 have l1:=hs.ins
 have l2:=hs.outs
 have l3:=hs.after
 rw[aH h.ZW h.Xy h.aaJ h.Y4 (args':=[.agg [.str x.name,a,b,c,d]]) (by simp only[aU,ev]),aX (by kernel_rfl)]
 have k1:=λ(U:Sg)=>Dc (Z:=U) h (ia.ls U 9) (by omega)
 have k2:=λ(U:Sg)=>Dc (Z:=U) h (ib.ls U 9) (by omega)
 have k3:=λ(U:Sg)=>Dc (Z:=U) h (ic.ls U 9) (by omega)
 have kc:=λ(U:Sg)=>Dd (Z:=U) h (s:=x.name) (ic.ls U 9) (by omega)
 have rest:=λ(hn:(iM x.ins x.steps&&x.outs.all λo=>decide (o∈x.ins++x.steps.map Step.out))=fV x) kb U w F b0 k0 ow g1 g3 g4=>PG (K:=λv σ1=>match bW σ1 E.ty false v with
   |some v=>v=.bool (fV x)
   |none=>False) (c:=c) h ia ib id hs (kb:=kb) (U:=U) (w:=w) b0 k0 ow F g1 g3 g4 λ_=>by rw[hn];exact rfl
 generalize hC:cutAt [1,1,1,1,1] (aA Tryz.f182).code=C at rest
 cases e0:kZ x.ins with
 |true=>
  simp only[aA,Tryz.f182,KP,Ax.loadAt,↓reduceIte,reduceEqDiff,reduceLT,reduceAdd,reduceCtorEq,h.aY,h.bC,o1,o2,o3,o4,k1,e0]
  show V.bool false=V.bool (fV x)
  unfold fV
  simp[e0]
 |false=>
 cases e1:kZ x.outs with
 |true=>
  simp only[aA,Tryz.f182,KP,Ax.loadAt,↓reduceIte,reduceEqDiff,reduceLT,reduceAdd,reduceCtorEq,h.aY,h.bC,o1,o2,o3,o4,k1,k2,e0,e1]
  show V.bool false=V.bool (fV x)
  unfold fV
  simp[e0,e1]
 |false=>
 cases e2:kZ x.after with
 |true=>
  simp only[aA,Tryz.f182,KP,Ax.loadAt,↓reduceIte,reduceEqDiff,reduceLT,reduceAdd,reduceCtorEq,h.aY,h.bC,o1,o2,o3,o4,k1,k2,k3,e0,e1,e2]
  show V.bool false=V.bool (fV x)
  unfold fV
  simp[e0,e1,e2]
 |false=>
 cases e3:decide (x.name∈x.after) with
 |true=>
  simp only[aA,Tryz.f182,KP,Ax.loadAt,↓reduceIte,reduceEqDiff,reduceLT,reduceAdd,reduceCtorEq,h.cM,h.aY,h.bC,o1,o2,o3,o4,k1,k2,k3,kc,e0,e1,e2,e3]
  show V.bool false=V.bool (fV x)
  unfold fV
  rw[e0,e1,e2,e3]
  rfl
 |false=>
 rw[show (aA Tryz.f182).code=.seq (cutAt [0] (aA Tryz.f182).code) (.seq (cutAt [1,0] (aA Tryz.f182).code) (.seq (cutAt [1,1,0] (aA Tryz.f182).code) (.seq (cutAt [1,1,1,0] (aA Tryz.f182).code) (.seq (cutAt [1,1,1,1,0] (aA Tryz.f182).code) C)))) from by rw[<- hC];rfl]
 simp only[aA,Tryz.f182,KP,Ax.loadAt,↓reduceIte,reduceEqDiff,reduceLT,reduceAdd,reduceCtorEq,h.cM,h.aY,h.bC,cutAt,o1,o2,o3,o4,k1,k2,k3,kc,e0,e1,e2,e3]
 refine aO (tN h ia (by omega)) ?_
 rintro w U ⟨ow,kp,-⟩
 have b0:U[0]?=some (O.cells 46 [.str x.name,a,b,c,d] true):=kp 0 _ rfl
 obtain⟨c1,c2⟩:=rG ow
 have b1:=aP (x:=O.cells 24 [w] true) b0
 have kk:(U++[O.cells 24 [w] true])[U.length]?=some (O.cells 24 [w] true):=aR
 have es:=JJ (E:=E) (f:=217) b1 (λy hy=>by
  simp only[By,br,dz]at hy
  rcases hy with rfl | rfl | rfl | rfl | rfl
  ·rfl
  ·exact ia.bF
  ·exact ib.bF
  ·exact ic.bF
  ·exact id.bF)
 have kf:=cH (λK=>rW (Z:=U++[O.cells 24 [w] true]) (K:=K) (k:=217) (caps:=[.dH true [.str x.name,a,b,c,d]]) (P:=λy=>decide (y∈x.ins)) h (ib.ls _ 9) (by omega) (λc hc=>by cases hc with | head=>rfl | tail _ hc=>cases hc) (λy v hy hv=>by
  subst hv
  show aC E 217 [.str y,.dH true [.str x.name,a,b,c,d]] [] _
  rw[QX h ia ib.bF ic.bF id.bF (by omega)];exact⟨rfl,rfl⟩) es)
 have eo:(x.outs.all λo=>!decide (o∈x.ins)) = !(x.outs.any λy=>decide (y∈x.ins)):=by rw[List.not_any_eq_all_not]
 cases e4:x.outs.any λy=>decide (y∈x.ins) with
 |true=>
  simp only[KP,Ax.loadAt,Ax.storeAt,↓reduceIte,reduceEqDiff,reduceLT,reduceCtorEq,h.aY,h.bC,b1,kf,e4,c1,c2,aR,dR]
  show V.bool false=V.bool (fV x)
  unfold fV
  rw[eo,e0,e1,e2,e3,e4]
  rfl
 |false=>
 simp only[KP,Ax.loadAt,Ax.storeAt,↓reduceIte,reduceEqDiff,reduceLT,reduceCtorEq,h.aY,h.bC,b1,kf,e4,c1,c2,aR,dR]
 refine rest ?_ U.length _ w _ b1 kk (ow.app _) ?_ ?_ ?_
 ·unfold fV
  rw[eo,e0,e1,e2,e3,e4]
  simp
 ·exact (by simp +decide only[GS])
 ·exact (by simp +decide only[GS])
 ·exact (by simp +decide only[GS])
theorem SF (h:bJ E) {v:V}{x:aD}(hv:I9 v x)(hs:Small x):KC E 182 [v] Z (.bool (fV x)) Z:=cH λ_=>TN h hv hs
end
end
section
section
variable {E:Env}{Z:Sg}{K:V->Sg->Prop}
theorem TS (h:bJ E) {v:V}{x:aD}(hv:I9 v x)(hs:Small x):aC E 149 [v] Z K=K (.int .i64 (bE x)) Z:=by
 refine aC.of ?_
 have ev:=hv.snap (E:=E) Z
 obtain⟨a,b,c,d,rfl,ia,ib,ic,id⟩:=hv
 have o1:=aL ia.bF
 have o2:=aL ib.bF
 have o3:=aL ic.bF
 have o4:=aL id.bF
 have la:=bP h ia
 have lb:=bP h ib
 have lc:=bP h ic
 have ld:=jJ h id
 rw[aH h.Z5 h.XH h.aaR h.Zb (args':=[.agg [.str x.name,a,b,c,d]]) (by simp only[aU,ev]),aX (by kernel_rfl)]
 have k1:=λ(U:Sg)=>SJ (Z:=U) h (v:=.agg [.str x.name,a,b,c,d]) ⟨a,b,c,d,rfl,ia,ib,ic,id⟩ hs
 have k2:=λ(U:Sg)=>SF (Z:=U) h (v:=.agg [.str x.name,a,b,c,d]) ⟨a,b,c,d,rfl,ia,ib,ic,id⟩ hs
 cases e1:kW x with
 |false=>
  simp only[aA,Tryz.f149,KP,Ax.loadAt,↓reduceIte,reduceEqDiff,reduceLT,reduceAdd,h.bC,o1,o2,o3,o4,k1,e1]
  show V.int .i64 1=V.int .i64 (bE x)
  rw[show bE x=1 from by unfold bE;rw[b8 e1]]
 |true=>
 by_cases p0:8<x.ins.length
 ·have q0:decide ((8:Int)<(x.ins.length:Int))=true:=AT (by omega)
  simp only[aA,Tryz.f149,KP,Ax.loadAt,↓reduceIte,reduceEqDiff,reduceLT,reduceAdd,reduceCtorEq,h.aY,h.bC,o1,o2,o3,o4,la,k1,e1,q0]
  show V.int .i64 4=V.int .i64 (bE x)
  rw[show bE x=4 from by unfold bE;rw[ay (by rw[e1];simp)];rw[b8 (by unfold long;rw[AT p0];simp)]]
 have q0:decide ((8:Int)<(x.ins.length:Int))=false:=AI (by omega)
 by_cases p1:4<x.outs.length
 ·have q1:decide ((4:Int)<(x.outs.length:Int))=true:=AT (by omega)
  simp only[aA,Tryz.f149,KP,Ax.loadAt,↓reduceIte,reduceEqDiff,reduceLT,reduceAdd,reduceCtorEq,h.aY,h.bC,o1,o2,o3,o4,la,lb,k1,e1,q0,q1]
  show V.int .i64 4=V.int .i64 (bE x)
  rw[show bE x=4 from by unfold bE;rw[ay (by rw[e1];simp)];rw[b8 (by unfold long;rw[AT p1];simp)]]
 have q1:decide ((4:Int)<(x.outs.length:Int))=false:=AI (by omega)
 by_cases p2:8<x.after.length
 ·have q2:decide ((8:Int)<(x.after.length:Int))=true:=AT (by omega)
  simp only[aA,Tryz.f149,KP,Ax.loadAt,↓reduceIte,reduceEqDiff,reduceLT,reduceAdd,reduceCtorEq,h.aY,h.bC,o1,o2,o3,o4,la,lb,lc,k1,e1,q0,q1,q2]
  show V.int .i64 4=V.int .i64 (bE x)
  rw[show bE x=4 from by unfold bE;rw[ay (by rw[e1];simp)];rw[b8 (by unfold long;rw[AT p2];simp)]]
 have q2:decide ((8:Int)<(x.after.length:Int))=false:=AI (by omega)
 by_cases p3:12<x.steps.length
 ·have q3:decide ((12:Int)<(x.steps.length:Int))=true:=AT (by omega)
  simp only[aA,Tryz.f149,KP,Ax.loadAt,↓reduceIte,reduceEqDiff,reduceLT,reduceAdd,reduceCtorEq,h.aY,h.fN,h.bC,o1,o2,o3,o4,la,lb,lc,ld,k1,e1,q0,q1,q2,q3]
  show V.int .i64 4=V.int .i64 (bE x)
  rw[show bE x=4 from by unfold bE;rw[ay (by rw[e1];simp)];rw[b8 (by unfold long;rw[AT p3];simp)]]
 have q3:decide ((12:Int)<(x.steps.length:Int))=false:=AI (by omega)
 cases e2:fV x with
 |false=>
  simp only[aA,Tryz.f149,KP,Ax.loadAt,↓reduceIte,reduceEqDiff,reduceLT,reduceAdd,reduceCtorEq,h.aY,h.fN,h.bC,o1,o2,o3,o4,la,lb,lc,ld,k1,k2,e1,q0,q1,q2,q3,e2]
  show V.int .i64 2=V.int .i64 (bE x)
  rw[show bE x=2 from by unfold bE;rw[ay (by rw[e1];simp)];rw[ay (by unfold long;rw[AI p0,AI p1,AI p2,AI p3];simp)];rw[b8 e2]]
 |true=>
 simp only[aA,Tryz.f149,KP,Ax.loadAt,↓reduceIte,reduceEqDiff,reduceLT,reduceAdd,reduceCtorEq,h.aY,h.fN,h.bC,o1,o2,o3,o4,la,lb,lc,ld,k1,k2,e1,q0,q1,q2,q3,e2]
 show V.int .i64 0=V.int .i64 (bE x)
 rw[show bE x=0 from by unfold bE;rw[ay (by rw[e1];simp)];rw[ay (by unfold long;rw[AI p0,AI p1,AI p2,AI p3];simp)];rw[ay (by rw[e2];simp)]]
theorem SP (h:bJ E) {v:V}{x:aD}(hv:I9 v x)(hs:Small x):KC E 149 [v] Z (.int .i64 (bE x)) Z:=cH λ_=>TS h hv hs
end
end
section
section
variable {E:Env}{Z:Sg}{K:V->Sg->Prop}
def SM (E:Env) (es:List (V × V)) (get:bD->Option V):Prop:=(∀e∈es,(∃k,e.1=.str k)/\Ax.bF e.2=true)/\∀k,iR (fB E 9) (.str k) es=some (get k)
theorem cA (h:bJ E) (a b:bD):fB E 9 (.str a) (.str b)=some (Ax.seq a b):=by unfold fB;rw[h.cM]
theorem JN:SM E [] λ_=>none:=⟨λ_ h=>(by cases h),λ_=>rfl⟩
theorem FZ (h:bJ E) {v:V} (k:bD)(hv:Ax.bF v=true):∀{es:List (V × V)}{get:bD->Option V},SM E es get->∃es',lA (fB E 9) (.str k) v es=some es'/\SM E es' λq=>if q=k then some v else get q
 | [],get,hs=>by
  refine⟨[(.str k,v)],rfl,λe he=>?_,λq=>?_⟩
  ·rw[dc.1 he]
   exact⟨⟨k,rfl⟩,hv⟩
  ·show _=some (if q=k then some v else get q)
   have e0:none=get q:=cv (hs.2 q)
   rw[iR,cA h]
   by_cases hq:q=k
   ·rw[gC hq,b8 hq]
   ·rw[fU hq,ay hq,<- e0];rfl
 |(k0,v0)::r,get,hs=>by
  obtain⟨⟨s0,e0⟩,i0⟩:=hs.1 _ (IN ..)
  dsimp only at e0 i0
  subst e0
  by_cases hk:k=s0
  ·refine⟨(.str k,v)::r,by rw[lA,cA h,gC hk],λe he=>?_,λq=>?_⟩
   ·rcases By.1 he with rfl | he
    ·exact⟨⟨k,rfl⟩,hv⟩
    ·exact hs.1 e (No _ he)
   ·have:=hs.2 q
    show _=some (if q=k then some v else get q)
    rw[iR,cA h]at this ⊢
    by_cases hq:q=k
    ·rw[gC hq,b8 hq]
    ·rw[fU (show q≠s0 by rw[<- hk];exact hq)]at this
     rw[fU hq,ay hq]
     exact this
  ·have hs':SM E r λq=>if q=s0 then (match iR (fB E 9) (.str q) r with | some y=>y | none=>none) else get q:=by
    refine⟨λe he=>hs.1 e (No _ he),λq=>?_⟩
    have:=hs.2 q
    rw[iR,cA h]at this
    show _=some (if q=s0 then (match iR (fB E 9) (.str q) r with | some y=>y | none=>none) else get q)
    by_cases hq:q=s0
    ·rw[b8 hq]
     have tot:∀(l:List (V × V)),(∀e∈l,∃k,e.1=V.str k)->∃y,iR (fB E 9) (.str q) l=some y:=by
      intro l
      induction l with
      |nil=>intro _;exact⟨none,rfl⟩
      |cons e l ih=>
       intro hl
       obtain⟨k1,e1⟩:=hl _ (IN ..)
       obtain⟨a,b⟩:=e
       dsimp only at e1
       subst e1
       rw[iR,cA h]
       by_cases h1:q=k1
       ·rw[gC h1];exact⟨_,rfl⟩
       ·rw[fU h1];exact ih λe he=>hl e (No _ he)
     obtain⟨y,hy⟩:=tot r λe he=>(hs.1 e (No _ he)).1
     rw[hy]
    ·rw[ay hq]
     rw[fU hq]at this
     exact this
   obtain⟨r',e1,s1⟩:=FZ h k hv hs'
   refine⟨(.str s0,v0)::r',by rw[lA,cA h,fU hk];simp only[e1],λe he=>?_,λq=>?_⟩
   ·rcases By.1 he with rfl | he
    ·exact⟨⟨s0,rfl⟩,i0⟩
    ·exact s1.1 e he
   ·have:=hs.2 q
    show _=some (if q=k then some v else get q)
    rw[iR,cA h]at this ⊢
    by_cases hq:q=s0
    ·rw[gC hq]at this ⊢
     rw[ay (show q≠k by rw[hq];exact jo hk)]
     exact this
    ·rw[fU hq]
     have h2:=s1.2 q
     dsimp only at h2
     rw[ay hq]at h2
     exact h2
def SB (E:Env) (es:List (V × V)) (p:bD->Bool):Prop:=SM E es λk=>if p k=true then some (.bool true) else none
theorem O_:SB E [] λ_=>false:=JN
theorem Vf (h:bJ E) {es:List (V × V)}{p:bD->Bool}(hs:SB E es p) (k:bD):∃es',lA (fB E 9) (.str k) (.bool true) es=some es'/\SB E es' λq=>p q||decide (q=k):=by
 obtain⟨es',h1,h2⟩:=FZ h (v:=.bool true) k rfl hs
 refine⟨es',h1,h2.1,λq=>(h2.2 q).trans ?_⟩
 show some (if q=k then some (V.bool true) else if p q=true then some (V.bool true) else none)=some (if (p q||decide (q=k))=true then some (V.bool true) else none)
 by_cases hq:q=k
 ·rw[b8 hq,AT hq,Bool.or_true,b8 rfl]
 ·rw[ay hq,AI hq,Bool.or_false]
theorem SB.congr {es:List (V × V)}{p q:bD->Bool}(hs:SB E es p) (e:∀k,p k=q k):SB E es q:=by
 rwa [show p=q from funext e]at hs
theorem Gn (h:bJ E) {Z:Sg}{x:V}{es:List (V × V)}{p:bD->Bool}(hx:entriesOf Z x=some es)(hs:SB E es p) (k:bD):lookup E Z 109 x (.str k) false=some (.bool (p k)):=by
 have hk:eB E 9 (.str k)=true:=by unfold eB;rw[h.cM]
 unfold Ax.lookup
 simp only[h.tT,h.uC,hk,hx,hs.2 k,di,ai,aq]
 cases p k <;> rfl
theorem Oj (h:bJ E) {Z:Sg}{b:Nat}{es:List (V × V)}{p:bD->Bool}(hb:Z[b]?=some (.map es))(hs:SB E es p) (k:bD):∃es',mapUpdate E Z 109 (.mp b) (.str k) (.bool true)=some (Z.set b (.map es'))/\SB E es' λq=>p q||decide (q=k):=by
 obtain⟨es',h1,h2⟩:=Vf h hs k
 have hk:eB E 9 (.str k)=true:=by unfold eB;rw[h.cM]
 refine⟨es',?_,h2⟩
 unfold Ax.mapUpdate
 simp only[h.tT,hk,hb,h1,fS,V.aW,di,j9,ai,aq,bt]
theorem ML (h:bJ E) {Z:Sg}{b m:Nat}{es:List (V × V)}{get:bD->Option V}(hb:Z[b]?=some (.map es))(hs:SM E es get):bI Z E.ty true (m+2) (.mp b)=some (.imp true es):=by
 rw[bI]
 simp only[hb]
 rw[iS λe he=>?_]
 obtain⟨⟨k,e1⟩,e2⟩:=hs.1 e he
 obtain⟨a,v⟩:=e
 dsimp only at e1 e2
 subst e1
 have e3:bI Z E.ty true (m+1) v=some v:=gW e2
 have e4:=cF e2
 have hpc:(V.str k).cells.all Ax.plainCell=true:=rfl
 cases v <;> first
  |(simp only[hpc,e3,e4,b9];done)
  |cases e2
theorem Ew (h:bJ E) {Z:Sg}{f k b t:Nat}{ex:Bool}{es:List (V × V)}{get:bD->Option V}(hk:Z[k]?=some (.cells t [.mp b] ex))(hb:Z[b]?=some (.map es))(hs:SM E es get):aQ Z E.ty true (.fn f [] [.ref k 0])=some (.fn f [] [.dH true [.imp true es]]):=by
 refine xO hk ?_
 simp only[aU,ML (m:=9) h hb hs,show bU true (V.imp true es)=true from rfl,b9]
theorem QW (h:bJ E) {es:List (V × V)}{p:bD->Bool}{y:bD}{g g2:Bool}(hs:SB E es p):aC E 156 [.str y,.dH g [.imp g2 es]] [] K=K (.bool (p y)) []:=by
 refine aC.of ?_
 have hi:Ax.bF (.dH g [.imp g2 es])=true:=rfl
 have ew:=cU (Z:=[]) (ty:=E.ty) hi (cF hi)
 rw[aH h.Z3 h.XF h.aaP h.Y_ (args':=[.str y,.dH g [.imp g2 es]]) (by simp only[aU,dD,ew]),aX (by kernel_rfl)]
 have hl:=λZ=>Gn (Z:=Z) (x:=.imp g2 es) h rfl hs y
 simp only[aA,Tryz.f156,KP,Ax.loadAt,↓reduceIte,reduceEqDiff,reduceLT,reduceAdd,reduceCtorEq,h.tT,hl]
 exact rfl
theorem QV (h:bJ E) {es:List (V × V)}{p:bD->Bool}{y:bD}{g g2:Bool}(hs:SB E es p):aC E 157 [.str y,.dH g [.imp g2 es]] [] K=K (.bool (!p y)) []:=by
 refine aC.of ?_
 have hi:Ax.bF (.dH g [.imp g2 es])=true:=rfl
 have ew:=cU (Z:=[]) (ty:=E.ty) hi (cF hi)
 rw[aH h.Z2 h.XE h.aaO h.Y9 (args':=[.str y,.dH g [.imp g2 es]]) (by simp only[aU,dD,ew]),aX (by kernel_rfl)]
 have hl:=λZ=>Gn (Z:=Z) (x:=.imp g2 es) h rfl hs y
 simp only[aA,Tryz.f157,KP,Ax.loadAt,↓reduceIte,reduceEqDiff,reduceLT,reduceAdd,reduceCtorEq,h.tT,hl]
 exact rfl
end
end
section
section
variable {E:Env}{Z:Sg}{K:V->Sg->Prop}
structure nX (E:Env) (U:Sg) (kr ko mr mo:Nat) (p1 p2:bD->Bool):Prop where
 b1:U[kr]?=some (.cells 109 [.mp mr] true)
 b2:U[ko]?=some (.cells 109 [.mp mo] true)
 m1:∃es,U[mr]?=some (.map es)/\SB E es p1
 m2:∃es,U[mo]?=some (.map es)/\SB E es p2
 ne:mr≠mo
theorem nX.app {U:Sg}{kr ko mr mo:Nat}{p1 p2:bD->Bool}(h:nX E U kr ko mr mo p1 p2) (y:O):nX E (U++[y]) kr ko mr mo p1 p2:=by
 obtain⟨e1,h1,s1⟩:=h.m1
 obtain⟨e2,h2,s2⟩:=h.m2
 exact⟨aP h.b1,aP h.b2,⟨e1,aP h1,s1⟩,⟨e2,aP h2,s2⟩,h.ne⟩
theorem qF {U:Sg}{i j:Nat}{x y:O}(h1:U[i]?=some x)(h2:U[j]?=some y)(h:x≠y):i≠j:=λe=>h (by rw[e,h2]at h1;exact (cv h1).symm)
theorem nX.Vl {U:Sg}{kr ko mr mo:Nat}{p1 p2 q1:bD->Bool}{es:List (V × V)}(h:nX E U kr ko mr mo p1 p2)(hs:SB E es q1):nX E (U.set mr (.map es)) kr ko mr mo q1 p2:=by
 obtain⟨e1,h1,s1⟩:=h.m1
 obtain⟨e2,h2,s2⟩:=h.m2
 have n1:=qF h1 h.b1 (by intro e;cases e)
 have n2:=qF h1 h.b2 (by intro e;cases e)
 exact⟨by rw[OF n1];exact h.b1,by rw[OF n2];exact h.b2,⟨es,by rw[bp (AS.1 h1).1],hs⟩,⟨e2,by rw[OF h.ne];exact h2,s2⟩,h.ne⟩
theorem nX.put2 {U:Sg}{kr ko mr mo:Nat}{p1 p2 q2:bD->Bool}{es:List (V × V)}(h:nX E U kr ko mr mo p1 p2)(hs:SB E es q2):nX E (U.set mo (.map es)) kr ko mr mo p1 q2:=by
 obtain⟨e1,h1,s1⟩:=h.m1
 obtain⟨e2,h2,s2⟩:=h.m2
 have n1:=qF h2 h.b1 (by intro e;cases e)
 have n2:=qF h2 h.b2 (by intro e;cases e)
 exact⟨by rw[OF n1];exact h.b1,by rw[OF n2];exact h.b2,⟨e1,by rw[OF (jo h.ne)];exact h1,s1⟩,⟨es,by rw[bp (AS.1 h2).1],hs⟩,h.ne⟩
def iQ (rs:List aD) (k:bD):Bool:=rs.any λq=>decide (q.name=k)
def wY (rs:List aD) (k:bD):Bool:=rs.any λq=>decide (k∈q.outs)
theorem uL {rs:List aD}{n:bD}:decide (fF rs n=none) = !iQ rs n:=by
 unfold fF iQ
 rw[<- cG]
 cases bN (λr=>decide (r.name=n)) rs <;> rfl
theorem DK {rs:List aD}{i:Nat}{r:aD}(hr:rs[i]?=some r):oK rs i=(iQ (rs.take i) r.name||r.outs.any (wY (rs.take i))):=by
 unfold oK iQ wY
 rw[hr,dn]
 simp only[ek,ez,IT]
 constructor
 ·rintro⟨q,hq,e | ⟨x,hx,e⟩⟩
  ·exact .inl ⟨q,hq,e⟩
  ·exact .inr ⟨x,hx,q,hq,e⟩
 ·rintro (⟨q,hq,e⟩ | ⟨x,hx,q,hq,e⟩)
  ·exact⟨q,hq,.inl e⟩
  ·exact⟨q,hq,.inr ⟨x,hx,e⟩⟩
theorem HQ {rs:List aD}{i:Nat}{r:aD}(hr:rs[i]?=some r) (k:bD):iQ (rs.take (i+1)) k=(iQ (rs.take i) k||decide (k=r.name)):=by
 unfold iQ
 rw[pZ hr,nh.2 ⟨Eq.symm,Eq.symm⟩]
theorem JW {rs:List aD}{i:Nat}{r:aD}(hr:rs[i]?=some r) (k:bD):wY (rs.take (i+1)) k=(wY (rs.take i) k||decide (k∈r.outs)):=pZ hr
theorem Yt (h:bJ E) {a:V}{rs:List aD} (ia:IS bS a rs)(hs:∀x∈rs,Small x)(hE:gU rs=if gY rs=true then 2 else 0)(hl:rs.length<=4294967296) {U:Sg}{kr ko mr mo:Nat}{p2:bD->Bool} (bx:nX E U kr ko mr mo (iQ rs) p2) (F:FT) (g0:F.get 0=a) (g7:F.get 7=.ref kr 0)(hk:∀nm σ',K (.gB [.int .i64 (gU rs),.str nm]) σ') :
  R E (cutAt [1,1,1,1,1] (aA Tryz.f119).code) [] ⟨81,F⟩ U (mQ E (aA Tryz.f119).results K):=by
 have la:=cI h ia
 have d28:=h.Ts
 simp only[aA,Tryz.f119,cutAt,ag]at d28
 simp only[aA,Tryz.f119,KP,↓reduceIte,reduceLT,cutAt,g0,la]
 refine aV (λi F U=>F.get 7=.ref kr 0/\F.get 68=a/\F.get 69=.int .i64 (rs.length:Int)/\F.get 70=.int .i64 (i:Int)/\nX E U kr ko mr mo (iQ rs) p2/\∀(j:Nat) (r:aD),j<i->rs[j]?=some r->r.after.any (λn=>!iQ rs n)=false) rs.length ?_ ?_ rs.length 0 _ _ (by omega) (fZ (by simp +decide only[GS,g7,aj]) ⟨bx,λj r hj=>by omega⟩)
 ·rintro i F U hi ⟨g7,g68,g69,g70,bx,hp⟩ next
  obtain⟨r,hr⟩:∃y,rs[i]?=some y:=⟨_,BY hi⟩
  obtain⟨g,p1,p2',p3,p4,e1,i1,i2,i3,i4⟩:=dK h ia hr
  have hsm:=hs r (af hr)
  have a3:=hsm.after
  have o1:=aL i1.bF
  have o2:=aL i2.bF
  have o3:=aL i3.bF
  have o4:=aL i4.bF
  have hlt:=eC hi
  have hadd:=bY i (by omega)
  have bx1:=bx.app (O.cells 46 [.str r.name,p1,p2',p3,p4] true)
  have s1:(U++[O.cells 46 [.str r.name,p1,p2',p3,p4] true])[U.length]?=some (O.cells 46 [.str r.name,p1,p2',p3,p4] true):=aR
  rw[aF]
  simp only[KP,Ax.loadAt,Ax.storeAt,↓reduceIte,reduceEqDiff,reduceLT,reduceAdd,reduceCtorEq,h.aY,h.bC,g7,g68,g69,g70,hlt,e1,o1,o2,o3,o4,aR,dR]
  generalize U++[O.cells 46 [.str r.name,p1,p2',p3,p4] true]=τ1 at *
  generalize U.length=y at *
  obtain⟨es,hm,hsb⟩:=bx1.m1
  have ef:=Ew (f:=157) h bx1.b1 hm hsb
  have kf:=cH (λK=>rW (Z:=τ1) (K:=K) (k:=157) (caps:=[.dH true [.imp true es]]) (P:=λn=>!iQ rs n) h (i3.ls τ1 9) (by omega) (λc hc=>by cases hc with | head=>rfl | tail _ hc=>cases hc) (λy v hy hv=>by
   subst hv
   show aC E 157 [.str y,.dH true [.imp true es]] [] _
   rw[QV h hsb];exact⟨rfl,rfl⟩) ef)
  cases m:r.after.any λn=>!iQ rs n with
  |true=>
   have hstr:gY rs=true:=by
    unfold gY
    refine ek.2 ⟨r,af hr,?_⟩
    rw[<- m]
    exact au (λf=>r.after.any f) (funext λn=>uL)
   rw[hE,b8 hstr]at hk
   simp only[KP,Ax.loadAt,↓reduceIte,reduceEqDiff,reduceLT,reduceCtorEq,h.cM,h.bC,s1,kf,m,aK d28,a_]
   exact hk _ _
  |false=>
  simp only[KP,↓reduceIte,reduceEqDiff,reduceLT,g70,kf,m,hadd]
  refine next _ _ (fZ (by simp +decide only[GS,g7,g68,g69,aj]) ⟨bx1,λj q hj hq=>?_⟩)
  rcases cj j i with g | g
  ·exact hp j q g hq
  ·obtain rfl:j=i:=by omega
   rw[hr]at hq;cases hq;exact m
 ·rintro F U ⟨g7,g68,g69,g70,bx,hp⟩
  have hstr:gY rs=false:=by
   unfold gY
   refine mq.2 λr hr=>?_
   obtain⟨j,hj,e⟩:=fg hr
   have:=hp j r hj (by rw[BY hj,e])
   rw[show (r.after.any λn=>decide (fF rs n=none))=r.after.any λn=>!iQ rs n from au (λf=>r.after.any f) (funext λn=>uL),this]
   simp
  rw[hE,ay (by rw[hstr];simp)]at hk
  have hlt:=eG (bg rs.length)
  rw[aF]
  simp only[KP,↓reduceIte,reduceEqDiff,reduceLT,kX,g69,g70,hlt]
  exact hk _ _
end
end
section
section
variable {E:Env}{Z:Sg}{K:V->Sg->Prop}
theorem nX.congr {U:Sg}{kr ko mr mo:Nat}{p1 p2 q1 q2:bD->Bool}(h:nX E U kr ko mr mo p1 p2) (e1:∀k,p1 k=q1 k) (e2:∀k,p2 k=q2 k):nX E U kr ko mr mo q1 q2:=by
 rwa [show p1=q1 from funext e1,show p2=q2 from funext e2]at h
theorem Ys (h:bJ E) {a:V}{rs:List aD} (ia:IS bS a rs)(hs:∀x∈rs,Small x)(hE:gU rs=if tK rs=true then 2 else if gY rs=true then 2 else 0)(hl:rs.length<=4294967296) {U:Sg}{kr ko mr mo:Nat} (bx:nX E U kr ko mr mo (λ_=>false) (λ_=>false)) (F:FT) (g0:F.get 0=a) (g7:F.get 7=.ref kr 0) (g8:F.get 8=.ref ko 0)(hk:∀nm σ',K (.gB [.int .i64 (gU rs),.str nm]) σ') :
  R E (cutAt [1,1,1,1] (aA Tryz.f119).code) [] ⟨81,F⟩ U (mQ E (aA Tryz.f119).results K):=by
 have la:=cI h ia
 have key:=λ(hE':gU rs=if gY rs=true then 2 else 0) U p2 bx F g0 g7=>Yt (K:=K) (U:=U) (kr:=kr) (ko:=ko) (mr:=mr) (mo:=mo) (p2:=p2) h ia hs hE' hl bx F g0 g7 hk
 rw[show cutAt [1,1,1,1] (aA Tryz.f119).code=.seq (cutAt [1,1,1,1,0] (aA Tryz.f119).code) (cutAt [1,1,1,1,1] (aA Tryz.f119).code) from rfl]
 have d16:=h.Tt
 simp only[aA,Tryz.f119,cutAt,ag]at d16
 generalize cutAt [1,1,1,1,1] (aA Tryz.f119).code=C at key ⊢
 simp only[aA,Tryz.f119,KP,↓reduceIte,reduceLT,cutAt,g0,la]
 refine aV (λi F U=>F.get 0=a/\F.get 7=.ref kr 0/\F.get 8=.ref ko 0/\F.get 35=a/\F.get 36=.int .i64 (rs.length:Int)/\F.get 37=.int .i64 (i:Int)/\nX E U kr ko mr mo (iQ (rs.take i)) (wY (rs.take i))/\∀j,j<i->oK rs j=false) rs.length ?_ ?_ rs.length 0 _ _ (by omega) (Bt (by simp +decide only[GS,g0,g7,g8,aj]) ⟨bx,λj hj=>by omega⟩)
 ·rintro i F U hi ⟨g0,g7,g8,g35,g36,g37,bx,hp⟩ next
  obtain⟨r,hr⟩:∃y,rs[i]?=some y:=⟨_,BY hi⟩
  obtain⟨g,p1,p2',p3,p4,e1,i1,i2,i3,i4⟩:=dK h ia hr
  have hsm:=hs r (af hr)
  have a2:=hsm.outs
  have o1:=aL i1.bF
  have o2:=aL i2.bF
  have o3:=aL i3.bF
  have o4:=aL i4.bF
  have hlt:=eC hi
  have hadd:=bY i (by omega)
  have lo:=bP h i2
  have bx1:=bx.app (O.cells 46 [.str r.name,p1,p2',p3,p4] true)
  have s1:(U++[O.cells 46 [.str r.name,p1,p2',p3,p4] true])[U.length]?=some (O.cells 46 [.str r.name,p1,p2',p3,p4] true):=aR
  rw[aF]
  simp only[KP,Ax.loadAt,Ax.storeAt,↓reduceIte,reduceEqDiff,reduceLT,reduceAdd,h.bC,h.tT,g7,g8,g35,g36,g37,hlt,e1,o1,o2,o3,o4,aR,dR]
  generalize U++[O.cells 46 [.str r.name,p1,p2',p3,p4] true]=τ1 at *
  generalize U.length=y at *
  obtain⟨es1,hm1,hsb1⟩:=bx1.m1
  obtain⟨es2,hm2,hsb2⟩:=bx1.m2
  have bb1:=bx1.b1
  have ef:=Ew (f:=156) h bx1.b2 hm2 hsb2
  have kf:=cH (λK=>rW (Z:=τ1) (K:=K) (k:=156) (caps:=[.dH true [.imp true es2]]) (P:=wY (rs.take i)) h (i2.ls τ1 9) (by omega) (λc hc=>by cases hc with | head=>rfl | tail _ hc=>cases hc) (λy v hy hv=>by
   subst hv
   show aC E 156 [.str y,.dH true [.imp true es2]] [] _
   rw[QW h hsb2];exact⟨rfl,rfl⟩) ef)
  have hlk:=Gn (Z:=τ1) (x:=.mp mr) h (by unfold entriesOf;simp only[hm1]) hsb1 r.name
  have hcl:=DK hr
  have yes:oK rs i=true->gU rs=2:=λe=>by
   rw[hE,b8]
   exact ek.2 ⟨i,js.2 hi,e⟩
  cases m1:iQ (rs.take i) r.name with
  |true=>
   rw[m1,Bool.true_or]at hcl
   rw[yes hcl]at hk
   simp only[KP,Ax.loadAt,↓reduceIte,reduceEqDiff,reduceLT,reduceCtorEq,h.cM,h.bC,s1,bb1,hlk,m1,aK d16,a_]
   exact hk _ _
  |false=>
  rw[m1,Bool.false_or]at hcl
  cases m2:r.outs.any (wY (rs.take i)) with
  |true=>
   rw[m2]at hcl
   rw[yes hcl]at hk
   simp only[KP,Ax.loadAt,↓reduceIte,reduceEqDiff,reduceLT,reduceCtorEq,h.cM,h.aY,h.bC,s1,bb1,hlk,kf,m1,m2,aK d16,a_]
   exact hk _ _
  |false=>
  rw[m2]at hcl
  obtain⟨es1',hu,hsb1'⟩:=Oj h hm1 hsb1 r.name
  have bx2:=bx1.Vl hsb1'
  have ny:mr≠y:=qF hm1 s1 (by intro e;cases e)
  have s2:(τ1.set mr (.map es1'))[y]?=some (O.cells 46 [.str r.name,p1,p2',p3,p4] true):=by rw[OF ny];exact s1
  simp only[KP,Ax.loadAt,↓reduceIte,reduceEqDiff,reduceLT,reduceCtorEq,h.cM,h.aY,h.bC,h.tT,g7,s1,bb1,hlk,kf,m1,m2,hu,s2,lo]
  refine aV (λj F U=>F.get 0=a/\F.get 7=.ref kr 0/\F.get 8=.ref ko 0/\F.get 35=a/\F.get 36=.int .i64 (rs.length:Int)/\F.get 37=.int .i64 (i:Int)/\F.get 58=p2'/\F.get 59=.int .i64 (r.outs.length:Int)/\F.get 60=.int .i64 (j:Int)/\nX E U kr ko mr mo (λk=>iQ (rs.take i) k||decide (k=r.name)) (λk=>wY (rs.take i) k||decide (k∈r.outs.take j))) r.outs.length ?_ ?_ r.outs.length 0 _ _ (by omega) (Br (by simp +decide only[GS,g0,g7,g8,g35,g36,g37,aj]) (bx2.congr (λ_=>rfl) (λk=>by simp)))
  ·rintro j F U hj ⟨g0,g7,g8,g35,g36,g37,g58,g59,g60,bx⟩ next2
   obtain⟨s,hsj⟩:∃y,r.outs[j]?=some y:=⟨_,BY hj⟩
   obtain⟨g',e2⟩:=gI h i2 hsj
   have hlt2:=eC hj
   have hadd2:=bY j (by omega)
   obtain⟨es3,hm3,hsb3⟩:=bx.m2
   obtain⟨es3',hu3,hsb3'⟩:=Oj h hm3 hsb3 s
   have bb2:=bx.b2
   rw[aF]
   simp only[KP,Ax.loadAt,↓reduceIte,reduceEqDiff,reduceLT,h.cM,h.tT,g8,g58,g59,g60,hlt2,e2,bb2,hu3,hadd2]
   refine next2 _ _ (Br (by simp +decide only[GS,g0,g7,g8,g35,g36,g37,g58,g59,aj]) ((bx.put2 hsb3').congr (λ_=>rfl) (λk=>?_)))
   rw[dh,hsj,Bool.or_assoc,dn]
   simp
  ·rintro F U ⟨g0,g7,g8,g35,g36,g37,g58,g59,g60,bx⟩
   rw[ak (ae _)]at bx
   have hlt2:=eG (bg r.outs.length)
   rw[aF]
   simp only[KP,↓reduceIte,reduceEqDiff,reduceLT,g37,g59,g60,hlt2,hadd]
   refine next _ _ (Bt (by simp +decide only[GS,g0,g7,g8,g35,g36,aj]) ⟨bx.congr (λk=>(HQ hr k).symm) (λk=>(JW hr k).symm),λj hj=>?_⟩)
   rcases cj j i with g | g
   ·exact hp j g
   ·obtain rfl:j=i:=by omega
    exact hcl
 ·rintro F U ⟨g0,g7,g8,g35,g36,g37,bx,hp⟩
  have hcl:tK rs=false:=mq.2 λj hj=>by rw[hp j (js.1 hj)];simp
  rw[ay (by rw[hcl];simp)]at hE
  rw[ak (ae _)]at bx
  have hlt:=eG (bg rs.length)
  rw[aF]
  simp only[KP,↓reduceIte,reduceLT,g36,g37,hlt]
  exact key hE _ _ bx _ (by simp +decide only[GS,g0]) (by simp +decide only[GS,g7])
end
end
section
section
variable {E:Env}{Z:Sg}{K:V->Sg->Prop}
theorem wK {U:Sg}{a b c d:O}{n:Nat}:(U++[a]++[b]++[c]++[d])[U.length+n]?=[a,b,c,d][n]?:=by
 rw[cm,cm,cm,ck (by omega),mu]
 rfl
theorem Qs {U:Sg}{a b c d x:O}:(U++[a]++[b]++[c]++[d]).set (U.length+2) x=U++[a]++[b]++[x]++[d]:=by
 rw[cm,cm,cm,mc _ _ (by omega),mu,cm,cm,cm]
 rfl
theorem Ns {U:Sg}{a b c d x:O}:(U++[a]++[b]++[c]++[d]).set (U.length+3) x=U++[a]++[b]++[c]++[x]:=by
 rw[cm,cm,cm,mc _ _ (by omega),mu,cm,cm,cm]
 rfl
theorem Kc {U:Sg}{a b c:O}:(U++[a]).length=U.length+1/\(U++[a]++[b]).length=U.length+2/\(U++[a]++[b]++[c]).length=U.length+3:=by simp
theorem Mi (h:bJ E) {a:V}{rs:List aD}(ha:LS bS 46 Z a rs)(hs:∀x∈rs,Small x)(hl:rs.length<=4294967296):aC E 119 [a] Z λv σ'=>σ'=Z/\∃nm,v=.gB [.int .i64 (gU rs),.str nm]:=by
 obtain⟨a',ea,ia⟩:=dQ h ha
 rw[aH h.aab h.XO h.aaY h.Zi (args':=[a']) (by simp only[aU,ea]),aX (by kernel_rfl)]
 have la:=cI h ia
 have key:=λhE U kr ko mr mo bx F g0 g7 g8=>Ys (K:=λv σ1=>match bW σ1 E.ty false v with
   |some v=>∃nm,v=.gB [.int .i64 (gU rs),.str nm]
   |none=>False) (U:=U) (kr:=kr) (ko:=ko) (mr:=mr) (mo:=mo) h ia hs hE hl bx F g0 g7 g8 (λnm σ'=>⟨nm,rfl⟩)
 rw[show (aA Tryz.f119).code=.seq (cutAt [0] (aA Tryz.f119).code) (.seq (cutAt [1,0] (aA Tryz.f119).code) (.seq (cutAt [1,1,0] (aA Tryz.f119).code) (.seq (cutAt [1,1,1,0] (aA Tryz.f119).code) (cutAt [1,1,1,1] (aA Tryz.f119).code)))) from rfl]
 have d6:=h.Wl
 simp only[aA,Tryz.f119,cutAt,ag]at d6
 generalize cutAt [1,1,1,1] (aA Tryz.f119).code=C at key ⊢
 simp only[aA,Tryz.f119,KP,↓reduceIte,reduceLT,reduceCtorEq,kX,cutAt,la]
 refine aV (λi F U=>F.get 0=a'/\F.get 16=a'/\F.get 17=.int .i64 (rs.length:Int)/\F.get 18=.int .i64 (i:Int)/\∀(j:Nat) (r:aD),j<i->rs[j]?=some r->bE r=0) rs.length ?_ ?_ rs.length 0 _ _ (by omega) (fZ (by simp +decide only[GS,aj]) (λj r hj=>by omega))
 ·rintro i F U hi ⟨g0,g16,g17,g18,hp⟩ next
  obtain⟨r,hr⟩:∃y,rs[i]?=some y:=⟨_,BY hi⟩
  obtain⟨g,p1,p2,p3,p4,e1,i1,i2,i3,i4⟩:=dK h ia hr
  have hsm:=hs r (af hr)
  have o1:=aL i1.bF
  have o2:=aL i2.bF
  have o3:=aL i3.bF
  have o4:=aL i4.bF
  have hlt:=eC hi
  have hadd:=bY i (by omega)
  have s1:(U++[O.cells 46 [.str r.name,p1,p2,p3,p4] true])[U.length]?=some (O.cells 46 [.str r.name,p1,p2,p3,p4] true):=aR
  have kr:=λ(U:Sg)=>SP (Z:=U) h (v:=.agg [.str r.name,p1,p2,p3,p4]) ⟨p1,p2,p3,p4,rfl,i1,i2,i3,i4⟩ hsm
  rw[aF]
  simp only[KP,Ax.loadAt,Ax.storeAt,↓reduceIte,reduceEqDiff,reduceLT,reduceAdd,h.bC,g16,g17,g18,hlt,e1,o1,o2,o3,o4,aR,dR]
  generalize U++[O.cells 46 [.str r.name,p1,p2,p3,p4] true]=τ1 at *
  generalize U.length=y at *
  by_cases he:bE r=0
  ·have q:=AT he
   simp only[KP,↓reduceIte,reduceEqDiff,reduceLT,g18,kr,q,hadd]
   refine next _ _ (fZ (by simp +decide only[GS,g0,g16,g17,aj]) (λj x hj hx=>?_))
   rcases cj j i with g | g
   ·exact hp j x g hx
   ·obtain rfl:j=i:=by omega
    rw[hr]at hx;cases hx;exact he
  ·have q:=AI he
   rw[AM hr he λj s hj hx=>hp j s hj hx]
   simp only[KP,Ax.loadAt,↓reduceIte,reduceEqDiff,reduceLT,reduceCtorEq,h.cM,h.bC,s1,kr,q,aK d6,a_]
   exact⟨r.name,rfl⟩
 ·rintro F U ⟨g0,g16,g17,g18,hp⟩
  have hE:=zT λj s hx=>hp j s (AS.1 hx).1 hx
  have hlt:=eG (bg rs.length)
  rw[aF]
  by_cases h40:40<rs.length
  ·have q:decide ((40:Int)<(rs.length:Int))=true:=AT (by omega)
   rw[b8 h40]at hE
   rw[hE]
   simp only[KP,↓reduceIte,reduceEqDiff,reduceLT,reduceCtorEq,kX,g0,g17,g18,hlt,la,q]
   exact⟨[],rfl⟩
  ·have q:decide ((40:Int)<(rs.length:Int))=false:=AI (by omega)
   rw[ay h40]at hE
   have n1:=(Kc (U:=U) (a:=.map []) (b:=.map []) (c:=.cells 109 [.b_] true)).1
   have n2:=(Kc (U:=U) (a:=.map []) (b:=.map []) (c:=.cells 109 [.b_] true)).2.1
   have n3:=(Kc (U:=U) (a:=.map []) (b:=.map []) (c:=.cells 109 [.b_] true)).2.2
   have q1:(U++[O.map []]++[O.map []]++[O.cells 109 [.b_] true]++[O.cells 109 [.b_] true])[U.length+2]?=some (O.cells 109 [.b_] true):=wK
   have q2:(U++[O.map []]++[O.map []]++[O.cells 109 [.mp U.length] true]++[O.cells 109 [.b_] true])[U.length+3]?=some (O.cells 109 [.b_] true):=wK
   simp only[KP,Ax.storeAt,↓reduceIte,reduceEqDiff,reduceLT,reduceCtorEq,h.tT,g0,g17,g18,hlt,la,q,n1,n2,n3,q1,q2,Qs,Ns]
   refine key hE _ (U.length+2) (U.length+3) U.length (U.length+1) ⟨wK,wK,⟨[],wK (n:=0),O_⟩,⟨[],wK,O_⟩,by omega⟩ _ ?_ ?_ ?_
   ·exact (by simp +decide only[GS,g0])
   ·exact (by simp +decide only[GS])
   ·exact (by simp +decide only[GS])
end
end
section
section
variable {E:Env}{Z:Sg}{K:V->Sg->Prop}
theorem E5 {lt:List V->List V->Bool} (x:List V):∀l,(Df lt x l).Perm (x::l)
 | []=>.refl _
 |y::r=>by
  rw[Df]
  split
  ·exact .refl _
  ·exact ((E5 x r).cons y).trans (.swap x y r)
theorem Dn {lt:List V->List V->Bool}:∀(l acc:List (List V)),(l.foldl (λacc x=>Df lt x acc) acc).Perm (l++acc)
 | [],acc=>.refl _
 |x::l,acc=>by
  rw[lj]
  refine (Dn l _).trans ?_
  exact ((E5 x acc).append_left l).trans jl
theorem JE {lt:List V->List V->Bool} (l:List (List V)):(lP lt l).Perm l:=by
 have:=Dn (lt:=lt) l []
 rwa [fh]at this
def G5:List V->bD
 | [.str s]=>s
 |_=>[]
theorem BX:∀{rs:List (List V)}{l:List bD},dS aM.P rs l->rs=l.map λs=>[V.str s]
 |_,_,.nil=>rfl
 |_,_,.cons h t=>by rw[bj,BX t,show _=[V.str _] from h]
theorem Al:∀l:List bD,dS aM.P (l.map λs=>[V.str s]) l
 | []=>.nil
 |_::l=>.cons rfl (Al l)
theorem AJ:∀l:List bD,((l.map λs=>[V.str s]).flatten).map (λv=>[v])=l.map λs=>[V.str s]
 | []=>rfl
 |s::l=>by simp only[bj,da,gp,AJ l];rfl
theorem Bx:∀{l:List bD},(∀s∈l,s.length<=9223372036854775807)->allRows kU (l.map λs=>[V.str s])=true
 | [],_=>rfl
 |s::l,h=>by
  have h1:kU [V.str s]=true:=nr (h s (IN ..))
  rw[bj,allRows,h1]
  exact Bx λx hx=>h x (No _ hx)
theorem Eo:∀{rows:List (List V)},(∀r∈rows,∃s,r=[V.str s])->rows=(rows.map G5).map λs=>[V.str s]
 | [],_=>rfl
 |r::rows,h=>by
  obtain⟨s,e⟩:=h r (IN ..)
  rw[bj,bj,<- Eo λx hx=>h x (No _ hx),e]
  rfl
theorem E8 {Z:Sg}{w:V}{l:List bD} (ow:bH aM 9 Z w l)(hl:l.length<=1000000)(hs:∀s∈l,s.length<=9223372036854775807):∃σ' l',pQ 9 [w] Z=some (.gB [],σ')/\l'.Perm l/\bH aM 9 σ' w l'/\Sp Z σ' w/\σ'.length=Z.length:=by
 rcases ow with⟨rfl,rfl⟩ | ⟨b,rs,ex,rfl,hb,ha⟩
 ·exact⟨Z,[],rfl,.refl _,.inl ⟨rfl,rfl⟩,Sp.refl _ _,rfl⟩
 ·obtain rfl:=BX ha
  have hp:(lP strLt (l.map λs=>[V.str s])).Perm (l.map λs=>[V.str s]):=JE _
  have he:((lP strLt (l.map λs=>[V.str s])).map G5).Perm l:=by
   have:=hp.map G5
   rwa [ku,show G5 ∘ (λs=>[V.str s])=id from rfl,List.map_id]at this
  have hr:lP strLt (l.map λs=>[V.str s])=((lP strLt (l.map λs=>[V.str s])).map G5).map λs=>[V.str s]:=by
   refine Eo λr hr=>?_
   obtain⟨s,-,e⟩:=cg.1 (hp.mem_iff.1 hr)
   exact⟨s,e.symm⟩
  have hlen:((l.map λs=>[V.str s]).flatten).length=l.length:=by
   have:=au List.length (AJ l)
   rwa [az,az]at this
  refine⟨Z.set b (.cells 9 (lP strLt (l.map λs=>[V.str s])).flatten ex),_,?_,he,.inr ⟨b,_,ex,?_,?_,Al _⟩,?_,?_⟩
  ·unfold pQ
   simp only[hb,AJ,Bx hs,show Nat.beq 9 9=true from rfl,hlen,nr hl,show Nat.beq l.length l.length=true from Nat.beq_refl _]
  ·rw[az,hp.length_eq,az]
  ·rw[bp (AS.1 hb).1,<- hr]
  ·intro c o hc hn
   rw[OF (λe=>hn (by rw[<- e];rfl))]
   exact hc
  ·rw[fc]
end
end
section
section
variable {E:Env}{Z:Sg}{K:V->Sg->Prop}
def OL (U:Sg) (v:V) (l:List bD):Prop:=(v=.aB/\l=[])\/∃b cs ex,v=.sl b 0 l.length none/\U[b]?=some (.cells 9 cs ex)/\cs.take l.length=l.map V.str
theorem Dt:∀l:List bD,(l.map λs=>[V.str s]).flatten=l.map V.str
 | []=>rfl
 |s::l=>by simp only[bj,da,Dt l];rfl
theorem Ih (h:bJ E) {b off n k:Nat}(hk:k<n):indexAddr E 24 (.sl b off n none) (.int .i64 (k:Int))=some (.ref b (off+k)):=by
 unfold Ax.indexAddr
 simp only[h.aY,h.cM,show ¬ ((k:Int)<0) by omega,aq,dj,hk,b9,nf]
theorem LH (h:bJ E) {U:Sg}{b j:Nat}{A:List bD}{ex:Bool}{s:bD}(hb:U[b]?=some (O.cells 9 (A.map V.str) ex))(hj:A[j]?=some s):loadAt E U 9 (.ref b j)=some (.str s):=by
 unfold Ax.loadAt
 have e:(A.map V.str)[j]?=some (.str s):=by rw[kq,hj];rfl
 simp only[h.cM,hb,e,Ax.isAgg]
 rfl
theorem yV:∀(A:List bD) (j:Nat) (s:bD),j<A.length->setCells (A.map V.str) j [.str s]=(A.set j s).map V.str
 | [],_,_,h=>absurd h (by simp)
 |a::A,0,s,_=>rfl
 |a::A,j+1,s,h=>by
  have:=yV A j s (by simpa using h)
  simp only[bj,ni,<- this]
  rfl
theorem W_ (h:bJ E) {U:Sg}{b j:Nat}{A:List bD}{ex:Bool}{s:bD}(hb:U[b]?=some (O.cells 9 (A.map V.str) ex))(hj:j<A.length):storeAt E U 9 (.ref b j) (.str s)=some (U.set b (O.cells 9 ((A.set j s).map V.str) ex)):=by
 unfold Ax.storeAt
 have e:decide (j+1<=(A.map V.str).length)=true:=AT (by rw[az];omega)
 simp only[h.cM,hb,V.cells,aa,bf,ig,jm,V.aW,e,yV A j s hj]
 rfl
theorem P4 (h:bJ E) {U:Sg}{b off n:Nat}:lenOf E U 24 (.sl b off n none)=some n:=by unfold lenOf;rw[h.aY]
theorem LZ (h:bJ E) {U:Sg}{b n k:Nat}{A:List bD}{ex:Bool}(hb:U[b]?=some (O.cells 9 (A.map V.str) ex))(hn:n=A.length)(hk:k<n):Ax.slice E U 24 (.sl b 0 n none) (some (.int .i64 (k:Int))) none none=some (.sl b k (n-k) none):=by
 unfold Ax.slice
 simp only[h.aY,h.cM,hb,bound,show decide (0<=(k:Int))=true from AT (by omega),show decide ((k:Int)<=(n:Int))=true from AT (by omega),oz,b9,dj,cz]
 show (if (1:Nat)=0 then none else if (!(9==9))=true then none else if k*1<(A.map V.str).length then some (V.sl b (k*1) (n-k) none) else _)=_
 rw[ay (by decide),ay (by decide),b8 (by rw[az];omega),nf]
theorem RI (h:bJ E) {U:Sg}{b n k:Nat}{cs:List V}{ex:Bool}(hb:U[b]?=some (.cells 9 cs ex))(hn:n=cs.length)(hk:k<n):Ax.slice E U 24 (.sl b 0 n none) none (some (.int .i64 (k:Int))) none=some (.sl b 0 k none):=by
 unfold Ax.slice
 simp only[h.aY,h.cM,hb,bound,G9,show decide (0<=(k:Int))=true from AT (by omega),dj,fl,kj,oc,iz]
 show (if (1:Nat)=0 then none else if (!(9==9))=true then none else match if decide ((k:Int)<=((cs.length / 1:Nat):Int))=true then some k else none with
  |none=>none
  |some h=>if 0<cs.length then some (V.sl b 0 h none) else _)=_
 rw[ay (by decide),ay (by decide),b8 (by rw[Nat.div_one];exact AT (by omega))]
 show (if 0<cs.length then some (V.sl b 0 k none) else _)=_
 rw[b8 (by omega)]
theorem QH (h:bJ E) {U:Sg}{b n k:Nat}{A:List bD}{ex:Bool}(hb:U[b]?=some (O.cells 9 (A.map V.str) ex))(hn:n=A.length)(hk:k<n):∃cs,Ax.builtin E U .clear #[24] [.sl b k (n-k) none]=some (.gB [],U.set b (.cells 9 cs ex))/\cs.take k=(A.take k).map V.str/\cs.length=n:=by
 have hne:¬ n-k=0:=by omega
 have hle:decide (k+(n-k)*1<=(A.map V.str).length)=true:=AT (by rw[az];omega)
 refine⟨setCells (A.map V.str) k (fG (n-k) [.str []]),?_,?_,?_⟩
 ·unfold Ax.builtin
  show (match E.ty 24 with
   |some { kd:=.sl e,.. }=>match E.ty e,U[b]? with
    |some i,some (.cells u cs ex)=>
     if n-k=0 then some (V.gB [],U)
     else if u==e&&decide (k+(n-k)*i.size<=cs.length) then some (V.gB [],U.set b (.cells u (setCells cs k (fG (n-k) i.zero.cells)) ex)) else none
    |_,_=>none
   |_=>none)=_
  simp only[h.aY,h.cM,hb,hne,aq]
  rw[hle]
  rfl
 ·rw[List.map_take]
  clear hle hne
  unfold setCells
  rw[cm,List.take_append_of_le_length (by rw[bl,az];omega),qa,Nat.min_self]
 ·have hr:∀m,(fG m [V.str []]).length=m:=λm=>by
   induction m with
   |zero=>rfl
   |succ m ih=>rw[fG,an,ih];simp;omega
  unfold setCells
  simp only[an,bl,qd,az,hr]
  omega
end
end
section
section
variable {E:Env}{Z:Sg}{K:V->Sg->Prop}
theorem Sp.set {Z U:Sg}{w:V}{b:Nat}{y:O}(h:Sp Z U w)(hb:aZ w=some b):Sp Z (U.set b y) w:=λc o hc hn=>by
 rw[OF (λe=>hn (by rw[hb,e]))]
 exact h c o hc hn
theorem gJ {l:List bD}{k:Nat}{u:bD}(hu:l[k]?=some u) (x:bD):x∈l.take (k+1) ↔ x∈l.take k\/x=u:=by
 rw[dh,hu];simp
theorem N4 (h:bJ E) {w:V}{l:List bD} (ow:bH aM 9 Z w l)(hl:l.length<=1000000):aC E 122 [w] Z λv σ'=>(∃l',OL σ' v l'/\l'.length<=l.length/\∀x,x∈l' ↔ x∈l)/\(∀c,aZ v=some c->aZ w=some c)/\Sp Z σ' w/\σ'.length=Z.length:=by
 rw[eD h.Z9 h.XL h.aaV h.Zf,aX (by kernel_rfl)]
 rcases ow with⟨rfl,rfl⟩ | ⟨b,rs,ex,rfl,hb,ha⟩
 ·have ln:lenOf E Z 24 .aB=some 0:=by unfold lenOf;rw[h.aY]
  simp only[aA,Tryz.f122,KP,↓reduceIte,reduceLT,reduceCtorEq,Int.reduceLT,ln]
  exact⟨⟨[],.inl ⟨rfl,rfl⟩,ae _,λx=>po⟩,λc hc=>hc,Sp.refl _ _⟩
 obtain rfl:=BX ha
 rw[Dt]at hb
 have hls:OL Z (.sl b 0 l.length none) l:=.inr ⟨b,_,ex,rfl,hb,ak (by rw[az];exact ae _)⟩
 have lw:∀U,lenOf E U 24 (.sl b 0 l.length none)=some l.length:=λU=>P4 h
 by_cases h2:l.length<2
 ·have q:decide ((l.length:Int)<2)=true:=AT (by omega)
  simp only[aA,Tryz.f122,KP,↓reduceIte,reduceLT,reduceCtorEq,lw,q]
  exact⟨⟨l,hls,ae _,λx=>po⟩,λc hc=>hc,Sp.refl _ _⟩
 have q:decide ((l.length:Int)<2)=false:=AI (by omega)
 have d6:=h.Wk
 simp only[aA,Tryz.f122,cutAt,ag]at d6
 have d11:=h.Tr
 simp only[aA,Tryz.f122,cutAt,ag]at d11
 simp only[aA,Tryz.f122,KP,↓reduceIte,reduceLT,reduceCtorEq,lw,q]
 refine aV (λi F U=>U=Z/\F.get 0=.sl b 0 l.length none/\F.get 3=.int .i64 ((i+1:Nat):Int)) (l.length-1) ?_ ?_ (l.length-1) 0 _ _ (by omega) ⟨rfl,(by simp +decide only[GS]),(by simp +decide only[GS];rfl)⟩
 ·rintro i F U hi ⟨rfl,g0,g3⟩ next
  obtain⟨x,hx⟩:∃x,l[i+1]?=some x:=⟨_,BY (by omega)⟩
  obtain⟨y,hy⟩:∃y,l[i]?=some y:=⟨_,BY (by omega)⟩
  have hlt:=eC (show i+1<l.length by omega)
  have hdn:=Ek (i+1) (by omega) (by omega)
  rw[Nat.add_sub_cancel]at hdn
  have hadd:=bY (i+1) (by omega)
  have e1:=Ih (b:=b) (off:=0) h (show i+1<l.length by omega)
  have e2:=Ih (b:=b) (off:=0) h (show i<l.length by omega)
  rw[cz]at e1 e2
  have e3:=LH h hb hx
  have e4:=LH h hb hy
  rw[aF]
  by_cases hxy:x=y
  case neg=>
   have hs:=fU hxy
   simp only[KP,↓reduceIte,reduceEqDiff,reduceLT,reduceCtorEq,g0,g3,lw,hlt,hdn,hadd,e1,e2,e3,e4,hs,aK d6,a_]
   exact next _ _ ⟨rfl,(by simp +decide only[GS,g0,aj])⟩
  have hs:=gC hxy
  have e5:=LZ h hb rfl (show i+1<l.length by omega)
  simp only[KP,↓reduceIte,reduceEqDiff,reduceLT,reduceCtorEq,g0,g3,lw,hlt,hdn,e1,e2,e3,e4,e5,hs,aK d6,a_]
  have hly:y∈l.take (i+1):=af (by rw[gq (jy i)];exact hy)
  have bo:aZ (.sl b 0 l.length none)=some b:=rfl
  have lw2:∀U,lenOf E U 24 (.sl b (i+1) (l.length-(i+1)) none)=some (l.length-(i+1)):=λU=>P4 h
  refine aV (λj F τ'=>F.get 0=.sl b 0 l.length none/\F.get 4=.sl b (i+1) (l.length-(i+1)) none/\F.get 5=.int .i64 ((j+1:Nat):Int)/\Sp U τ' (.sl b 0 l.length none)/\τ'.length=U.length/\∃(A:List bD) (K:Nat),τ'[b]?=some (O.cells 9 (A.map V.str) ex)/\A.length=l.length/\F.get 3=.int .i64 (K:Int)/\i+1<=K/\K<=i+1+j/\(∀p,i+1+j<=p->A[p]?=l[p]?)/\∀x,x∈A.take K ↔ x∈l.take (i+1+j+1)) (l.length-(i+1)-1) ?_ ?_ (l.length-(i+1)-1) 0 _ _ (by omega) (lT (by simp +decide only[GS,g0,aj]) ⟨(by simp +decide only[GS];rfl),Sp.refl _ _,rfl,l,i+1,hb,rfl,(by simp +decide only[GS,g3]),ae _,ae _,λp _=>rfl,λz=>by
   rw[gJ (k:=i+1+0) (u:=x) hx]
   constructor
   ·exact .inl
   ·rintro (g | rfl)
    ·exact g
    ·rw[hxy];exact hly⟩)
  ·rintro j F τ' hj ⟨g0,g4,g5,sp,hlen,A,K,hA,hAl,g3,hK1,hK2,hag,hmem⟩ next2
   obtain⟨u,hu⟩:∃u,l[i+1+j+1]?=some u:=⟨_,BY (by omega)⟩
   obtain⟨v,hv⟩:∃v,l[i+1+j]?=some v:=⟨_,BY (by omega)⟩
   have hu':A[i+1+(j+1)]?=some u:=(hag _ (by omega)).trans hu
   have hv':A[i+1+j]?=some v:=(hag _ (by omega)).trans hv
   have hlt2:=eC (show j+1<l.length-(i+1) by omega)
   have hdn2:=Ek (j+1) (by omega) (by omega)
   rw[Nat.add_sub_cancel]at hdn2
   have hadd2:=bY (j+1) (by omega)
   have hadd3:=bY K (by omega)
   have f1:=Ih (b:=b) (off:=i+1) h (show j+1<l.length-(i+1) by omega)
   have f2:=Ih (b:=b) (off:=i+1) h (show j<l.length-(i+1) by omega)
   have f3:=LH h hA hu'
   have f4:=LH h hA hv'
   have f5:=Ih (b:=b) (off:=0) h (show K<l.length by omega)
   rw[cz]at f5
   have f6:=W_ (s:=u) h hA (show K<A.length by omega)
   have hms:∀z,z∈l.take (i+1+(j+1)+1) ↔ z∈l.take (i+1+j+1)\/z=u:=gJ hu
   rw[aF]
   by_cases huv:u=v
   ·have hs2:=gC huv
    simp only[KP,↓reduceIte,reduceEqDiff,reduceLT,g4,g5,lw2,hlt2,hdn2,hadd2,f1,f2,f3,f4,hs2,aK d11,a_]
    refine next2 _ _ (gE (by simp +decide only[GS,g0,g4,aj]) ⟨sp,hlen,A,K,hA,hAl,(by simp +decide only[GS,g3]),hK1,by omega,λp hp=>hag p (by omega),λz=>?_⟩)
    rw[hms,hmem]
    constructor
    ·exact .inl
    ·rintro (g | rfl)
     ·exact g
     ·rw[huv]
      exact af (by rw[gq (jy (i+1+j))];exact hv)
   ·have hs2:=fU huv
    simp only[KP,↓reduceIte,reduceEqDiff,reduceLT,reduceCtorEq,g0,g3,g4,g5,lw2,hlt2,hdn2,hadd2,hadd3,f1,f2,f3,f4,f5,f6,hs2,aK d11,a_]
    refine next2 _ _ (gE (by simp +decide only[GS,g0,g4,aj]) ⟨Sp.set sp bo,by rw[fc];exact hlen,A.set K u,K+1,by rw[bp (AS.1 hA).1],by rw[fc];exact hAl,(by simp +decide only[GS]),by omega,by omega,λp hp=>?_,λz=>?_⟩)
    ·rw[OF (by omega)];exact hag p (by omega)
    ·rw[hms,<- hmem,gJ (u:=u) (by rw[bp (by omega)]),List.take_set_of_le (ae K)]
  ·rintro F τ' ⟨g0,g4,g5,sp,hlen,A,K,hA,hAl,g3,hK1,hK2,hag,hmem⟩
   have hlt2:=eG (show ¬ l.length-(i+1)-1+1<l.length-(i+1) by omega)
   have f1:=LZ h hA hAl.symm (show K<l.length by omega)
   obtain⟨cs,f2,f3,f4⟩:=QH h hA hAl.symm (show K<l.length by omega)
   have hA2:(τ'.set b (.cells 9 cs ex))[b]?=some (.cells 9 cs ex):=by rw[bp (AS.1 hA).1]
   have f5:=RI h hA2 f4.symm (show K<l.length by omega)
   have hKl:(A.take K).length=K:=by rw[bl];omega
   rw[aF]
   simp only[KP,↓reduceIte,reduceEqDiff,reduceLT,reduceCtorEq,g0,g3,g4,g5,lw2,hlt2,f1,f2,f5]
   refine⟨⟨A.take K,.inr ⟨b,cs,ex,by rw[hKl],hA2,by rw[hKl];exact f3⟩,by rw[hKl];omega,λz=>?_⟩,λc hc=>hc,Sp.set sp bo,by rw[fc];exact hlen⟩
   ·rw[hmem,show i+1+(l.length-(i+1)-1)+1=l.length by omega,ak (ae _)]
 ·rintro F U ⟨rfl,g0,g3⟩
  have hlt:=eG (show ¬ l.length-1+1<l.length by omega)
  rw[aF]
  simp only[KP,↓reduceIte,reduceEqDiff,reduceLT,reduceCtorEq,g0,g3,lw,hlt]
  exact⟨⟨l,hls,ae _,λx=>po⟩,λc hc=>hc,Sp.refl _ _⟩
end
end
section
section
variable {E:Env}{Z:Sg}{K:V->Sg->Prop}
def MK (get:bD->Option V) (P:bD->bD->Prop):Prop:=∀k,(get k=none/\∀n,¬ P k n)\/∃n,P k n/\get k=some (.str n)
theorem MK.nil:MK (λ_=>none) λ_ _=>False:=λ_=>.inl ⟨rfl,λ_ h=>h⟩
theorem MK.put {get:bD->Option V}{P:bD->bD->Prop}(h:MK get P) (k n:bD):MK (λq=>if q=k then some (.str n) else get q) λq m=>P q m\/(q=k/\m=n):=λq=>by
 by_cases hq:q=k
 ·exact .inr ⟨n,.inr ⟨hq,rfl⟩,b8 hq⟩
 ·rcases h q with⟨h1,h2⟩ | ⟨m,h1,h2⟩
  ·exact .inl ⟨(ay hq).trans h1,λm hm=>hm.elim (h2 m) λg=>hq g.1⟩
  ·exact .inr ⟨m,.inl h1,(ay hq).trans h2⟩
theorem MK.congr {get:bD->Option V}{P Q:bD->bD->Prop}(h:MK get P) (e:∀k n,P k n ↔ Q k n):MK get Q:=λk=>by
 rcases h k with⟨h1,h2⟩ | ⟨n,h1,h2⟩
 ·exact .inl ⟨h1,λn hn=>h2 n ((e k n).2 hn)⟩
 ·exact .inr ⟨n,(e k n).1 h1,h2⟩
theorem LA (h:bJ E) {Z:Sg}{x:V}{es:List (V × V)}{get:bD->Option V}(hx:entriesOf Z x=some es)(hs:SM E es get) (k:bD):lookup E Z 97 x (.str k) true=some (match get k with | some v=>.gB [v,.bool true] | none=>.gB [.str [],.bool false]):=by
 have hk:eB E 9 (.str k)=true:=by unfold eB;rw[h.cM]
 unfold Ax.lookup
 simp only[h.D4,h.cM,hk,hx,hs.2 k,di,ai,aq]
 cases get k <;> rfl
theorem UB (h:bJ E) {Z:Sg}{b:Nat}{es:List (V × V)}{get:bD->Option V}(hb:Z[b]?=some (.map es))(hs:SM E es get) (k n:bD):∃es',mapUpdate E Z 97 (.mp b) (.str k) (.str n)=some (Z.set b (.map es'))/\SM E es' λq=>if q=k then some (.str n) else get q:=by
 obtain⟨es',h1,h2⟩:=FZ h (v:=.str n) k rfl hs
 have hk:eB E 9 (.str k)=true:=by unfold eB;rw[h.cM]
 refine⟨es',?_,h2⟩
 unfold Ax.mapUpdate
 simp only[h.D4,hk,hb,h1,fS,V.aW,di,j9,ai,aq,bt]
def Mk (rs:List aD) (k n:bD):Prop:=∃r∈rs,k∈r.outs/\n=r.name
theorem Mo {rs:List aD}{i:Nat}{r:aD}(hr:rs[i]?=some r) (k n:bD):Mk (rs.take (i+1)) k n ↔ Mk (rs.take i) k n\/(k∈r.outs/\n=r.name):=by
 unfold Mk
 rw[dh,hr]
 simp only[bw,Option.toList_some,dc]
 constructor
 ·rintro⟨q,hq | rfl,h⟩
  ·exact .inl ⟨q,hq,h⟩
  ·exact .inr h
 ·rintro (⟨q,hq,h⟩ | h)
  ·exact⟨q,.inl hq,h⟩
  ·exact⟨r,.inr rfl,h⟩
theorem YI (h:bJ E) {a:V}{rs:List aD} (ia:IS bS a rs)(hs:∀x∈rs,Small x)(hl:rs.length<=4294967296) (F:FT) (g0:F.get 0=a) (g3:F.get 3=.mp 0)
  (hk:∀F' U es get,F'.get 0=a->F'.get 3=.mp 0->U[0]?=some (.map es)->SM E es get->MK get (Mk rs)->R E (cutAt [1,1,1] (aA Tryz.f158).code) [] ⟨74,F'⟩ U (mQ E (aA Tryz.f158).results K)) :
  R E (cutAt [1,1] (aA Tryz.f158).code) [] ⟨74,F⟩ [.map []] (mQ E (aA Tryz.f158).results K):=by
 have la:=cI h ia
 rw[show cutAt [1,1] (aA Tryz.f158).code=.seq (cutAt [1,1,0] (aA Tryz.f158).code) (cutAt [1,1,1] (aA Tryz.f158).code) from rfl]
 generalize cutAt [1,1,1] (aA Tryz.f158).code=C at hk ⊢
 simp only[aA,Tryz.f158,KP,↓reduceIte,reduceLT,cutAt,g0,la]
 refine aV (λi F U=>F.get 0=a/\F.get 3=.mp 0/\F.get 17=a/\F.get 18=.int .i64 (rs.length:Int)/\F.get 19=.int .i64 (i:Int)/\∃es get,U[0]?=some (.map es)/\SM E es get/\MK get (Mk (rs.take i))) rs.length ?_ ?_ rs.length 0 _ _ (by omega) (mT (by simp +decide only[GS,g0,g3,aj]) ⟨[],λ_=>none,rfl,JN,MK.nil.congr λk n=>⟨λh=>h.elim,λ⟨r,hr,_⟩=>by cases hr⟩⟩)
 ·rintro i F U hi ⟨g0,g3,g17,g18,g19,es,get,hb,hsm,hmk⟩ next
  obtain⟨r,hr⟩:∃y,rs[i]?=some y:=⟨_,BY hi⟩
  obtain⟨g,p1,p2,p3,p4,e1,i1,i2,i3,i4⟩:=dK h ia hr
  have hsr:=hs r (af hr)
  have a2:=hsr.outs
  have o1:=aL i1.bF
  have o2:=aL i2.bF
  have o3:=aL i3.bF
  have o4:=aL i4.bF
  have hlt:=eC hi
  have hadd:=bY i (by omega)
  have lo:=bP h i2
  have hb1:=aP (x:=O.cells 46 [.str r.name,p1,p2,p3,p4] true) hb
  have s1:(U++[O.cells 46 [.str r.name,p1,p2,p3,p4] true])[U.length]?=some (O.cells 46 [.str r.name,p1,p2,p3,p4] true):=aR
  rw[aF]
  simp only[KP,Ax.loadAt,Ax.storeAt,↓reduceIte,reduceEqDiff,reduceLT,reduceAdd,reduceCtorEq,h.aY,h.bC,g17,g18,g19,hlt,e1,o1,o2,o3,o4,aR,dR]
  generalize U++[O.cells 46 [.str r.name,p1,p2,p3,p4] true]=τ1 at *
  generalize U.length=y at *
  simp only[KP,↓reduceIte,reduceLT,lo]
  refine aV (λj F U=>F.get 0=a/\F.get 3=.mp 0/\F.get 17=a/\F.get 18=.int .i64 (rs.length:Int)/\F.get 19=.int .i64 (i:Int)/\F.get 5=.ref y 0/\F.get 24=p2/\F.get 25=.int .i64 (r.outs.length:Int)/\F.get 26=.int .i64 (j:Int)/\U[y]?=some (O.cells 46 [.str r.name,p1,p2,p3,p4] true)/\∃es get,U[0]?=some (.map es)/\SM E es get/\MK get λk n=>Mk (rs.take i) k n\/(k∈r.outs.take j/\n=r.name)) r.outs.length ?_ ?_ r.outs.length 0 _ _ (by omega) (Br (by simp +decide only[GS,g0,g3,g17,g18,g19,aj]) ⟨s1,es,get,hb1,hsm,hmk.congr λk n=>by simp⟩)
  ·rintro j F U hj ⟨g0,g3,g17,g18,g19,g5,g24,g25,g26,s1,es,get,hb,hsm,hmk⟩ next2
   obtain⟨s,hsj⟩:∃y,r.outs[j]?=some y:=⟨_,BY hj⟩
   obtain⟨g',e2⟩:=gI h i2 hsj
   have hlt2:=eC hj
   have hadd2:=bY j (by omega)
   obtain⟨es',hu,hsm'⟩:=UB h hb hsm s r.name
   have hy0:0≠y:=qF hb s1 (by intro e;cases e)
   rw[aF]
   simp only[KP,Ax.loadAt,↓reduceIte,reduceEqDiff,reduceLT,reduceCtorEq,h.cM,h.bC,g3,g5,g24,g25,g26,hlt2,e2,s1,hu,hadd2]
   refine next2 _ _ (Br (by simp +decide only[GS,g0,g3,g17,g18,g19,g5,g24,g25,aj]) ⟨by rw[OF hy0];exact s1,es',_,by rw[bp (AS.1 hb).1],hsm',(hmk.put s r.name).congr λk n=>?_⟩)
   rw[gJ hsj]
   constructor
   ·rintro ((h1 | h1) | h1)
    ·exact .inl h1
    ·exact .inr ⟨.inl h1.1,h1.2⟩
    ·exact .inr ⟨.inr h1.1,h1.2⟩
   ·rintro (h1 | ⟨h1 | h1,h2⟩)
    ·exact .inl (.inl h1)
    ·exact .inl (.inr ⟨h1,h2⟩)
    ·exact .inr ⟨h1,h2⟩
  ·rintro F U ⟨g0,g3,g17,g18,g19,g5,g24,g25,g26,s1,es,get,hb,hsm,hmk⟩
   rw[ak (ae _)]at hmk
   have hlt2:=eG (bg r.outs.length)
   rw[aF]
   simp only[KP,↓reduceIte,reduceEqDiff,reduceLT,g19,g25,g26,hlt2,hadd]
   exact next _ _ (mT (by simp +decide only[GS,g0,g3,g17,g18,aj]) ⟨es,get,hb,hsm,hmk.congr λk n=>(Mo hr k n).symm⟩)
 ·rintro F U ⟨g0,g3,g17,g18,g19,es,get,hb,hsm,hmk⟩
  rw[ak (ae _)]at hmk
  have hlt:=eG (bg rs.length)
  rw[aF]
  simp only[KP,↓reduceIte,reduceLT,g18,g19,hlt]
  exact hk _ _ es get (by simp +decide only[GS,g0]) (by simp +decide only[GS,g3]) hb hsm hmk
end
end
section
section
variable {E:Env}{Z:Sg}{K:V->Sg->Prop}
theorem OL.keep {Z U:Sg}{v:V}{l:List bD}(h:OL Z v l) (k:∀(c:Nat) (o:O),aZ v=some c->Z[c]?=some o->U[c]?=some o):OL U v l:=by
 rcases h with h | ⟨b,cs,ex,rfl,hb,ht⟩
 ·exact .inl h
 ·exact .inr ⟨b,cs,ex,rfl,k b _ rfl hb,ht⟩
theorem OL.ok {Z:Sg}{v:V}{l:List bD}(h:OL Z v l):fS v=true:=by
 rcases h with⟨rfl,-⟩ | ⟨b,cs,ex,rfl,-⟩ <;> rfl
def Ur (v:V) (l:List bD):Prop:=(v=.aB/\l=[])\/∃full,v=.bT false (l.map λs=>[V.str s]) full
theorem pC:∀l:List bD,Ax.rows 1 l.length (l.map V.str)=l.map λs=>[V.str s]
 | []=>rfl
 |s::l=>by
  rw[aa,bj,Ax.rows,bj]
  exact au _ (pC l)
theorem OL.snap (h:bJ E) {Z:Sg}{v:V}{l:List bD}{m:Nat}(ho:OL Z v l):∃v',bI Z E.ty false (m+2) v=some v'/\Ur v' l:=by
 rcases ho with⟨rfl,rfl⟩ | ⟨b,cs,ex,rfl,hb,ht⟩
 ·exact⟨.aB,rfl,.inl ⟨rfl,rfl⟩⟩
 ·have hle:l.length<=cs.length:=by
   have:=au List.length ht
   rw[bl,az]at this
   omega
  have ht1:cs.take (l.length*1)=l.map V.str:=by rw[nf];exact ht
  obtain⟨full,e⟩:=Hr (g:=false) (n:=l.length) (m:=m) hb h.cM (show l.length*1<=_ by omega) (λc hcm=>by
   rw[show cs.take (l.length*1)=l.map V.str from ht1]at hcm
   obtain⟨s,-,rfl⟩:=cg.1 hcm
   exact⟨rfl,rfl⟩)
  refine⟨_,e,.inr ⟨full,?_⟩⟩
  show V.bT false (Ax.rows 1 l.length (cs.take (l.length*1))) full=_
  rw[ht1,pC]
theorem Ur.tag {v:V}{l:List bD}(h:Ur v l):bU false v=true:=by
 rcases h with⟨rfl,-⟩ | ⟨full,rfl⟩ <;> rfl
def DX (U:Sg) (N:aD->bD->Prop) (es:List (V × V)) (rs:List aD):Prop:=dS (λe r=>e.1=V.str r.name/\∃l,OL U e.2 l/\l.length<=1000000/\∀x,x∈l ↔ N r x) es rs
def BS (N:aD->bD->Prop) (es:List (V × V)) (rs:List aD):Prop:=dS (λe r=>e.1=V.str r.name/\∃l,Ur e.2 l/\l.length<=1000000/\∀x,x∈l ↔ N r x) es rs
theorem DX.keep {Z U:Sg}{N:aD->bD->Prop}{mA:Nat}{em:List (V × V)}{es:List (V × V)}{rs:List aD}(h:DX Z N es rs)(hm:Z[mA]?=some (.map em)) (k:∀(c:Nat) (o:O),Z[c]?=some o->c≠mA->U[c]?=some o):DX U N es rs:=by
 refine dS.imp h λe r ⟨h1,l,h2,h3⟩=>⟨h1,l,h2.keep λc o hc ho=>k c o ho ?_,h3⟩
 rintro rfl
 rcases h2 with⟨e0,-⟩ | ⟨b,cs,ex,e0,hb,-⟩
 ·rw[e0]at hc;cases hc
 ·rw[e0]at hc
  cases hc
  rw[hm]at hb
  cases hb
theorem CW (h:bJ E) {k:bD}{v:V}:∀{es:List (V × V)},(∀e∈es,∃q,e.1=V.str q/\q≠k)->lA (fB E 9) (.str k) v es=some (es++[(.str k,v)])
 | [],_=>rfl
 |(k0,v0)::es,hs=>by
  obtain⟨q,e1,hq⟩:=hs _ (IN ..)
  dsimp only at e1
  subst e1
  rw[lA,cA h,fU (jo hq)]
  simp only[CW h λe he=>hs e (No _ he)]
  rfl
theorem RL (h:bJ E) {U:Sg}{b:Nat}{N:aD->bD->Prop}{es:List (V × V)}{rs:List aD}{r:aD}{v:V}{l:List bD}(hb:U[b]?=some (.map es))(ha:DX U N es rs)(hn:∀q∈rs,q.name≠r.name)(hv:OL U v l)(hl:l.length<=1000000)(hm:∀x,x∈l ↔ N r x) :
  mapUpdate E U 107 (.mp b) (.str r.name) v=some (U.set b (.map (es++[(.str r.name,v)])))/\DX (U.set b (.map (es++[(.str r.name,v)]))) N (es++[(.str r.name,v)]) (rs++[r]):=by
 have hk:eB E 9 (.str r.name)=true:=by unfold eB;rw[h.cM]
 have hp:=CW (v:=v) (k:=r.name) h (es:=es) λe he=>by
  obtain⟨q,hq,h1,-⟩:=dS.mem ha he
  exact⟨q.name,h1,hn q hq⟩
 have hkeep:∀(c:Nat) (o:O),U[c]?=some o->c≠b->(U.set b (.map (es++[(.str r.name,v)])))[c]?=some o:=λc o hc hcb=>by
  rw[OF (jo hcb)];exact hc
 refine⟨?_,?_⟩
 ·unfold Ax.mapUpdate
  simp only[h.W6,hk,hb,hp,hv.ok,di,j9,ai,aq,bt]
 ·refine dS.append (ha.keep hb hkeep) (.cons ⟨rfl,l,hv.keep λc o hc ho=>hkeep c o ho ?_,hl,hm⟩ .nil)
  rintro rfl
  rcases hv with⟨e0,-⟩ | ⟨b',cs,ex,e0,hb',-⟩
  ·rw[e0]at hc;cases hc
  ·rw[e0]at hc
   cases hc
   rw[hb]at hb'
   cases hb'
theorem OZ (h:bJ E) {U:Sg}{b:Nat}{N:aD->bD->Prop}{es:List (V × V)}{rs:List aD}(hb:U[b]?=some (.map es))(ha:DX U N es rs):∃es',bW U E.ty false (.mp b)=some (.imp false es')/\BS N es' rs:=by
 have key:∀{es:List (V × V)}{rs:List aD},DX U N es rs->∃es',aU (λ(e:V × V)=>if e.1.cells.all Ax.plainCell then (match e.2 with
   | .agg cs=>match aU (λv=>match bI U E.ty false 11 v with
     |some v=>if bU false v then some v else Ax.no "snap: borrowed"
     |none=>none) cs with
    |some cs=>some (e.1,V.agg cs)
    |none=>none
   |v=>match (match bI U E.ty false 11 v with
     |some v=>if bU false v then some v else Ax.no "snap: borrowed"
     |none=>none) with
    |some v=>some (e.1,v)
    |none=>none) else none) es=some es'/\BS N es' rs:=by
  intro es rs ha
  induction ha with
  |nil=>exact⟨[],rfl,.nil⟩
  | @cons e r es rs h1 _ ih=>
   obtain⟨es',e1,a1⟩:=ih
   obtain⟨a,v⟩:=e
   obtain⟨h2,l,h3,h4,h5⟩:=h1
   dsimp only at h2 h3
   subst h2
   obtain⟨v',e2,sv⟩:=h3.snap (m:=9) h
   refine⟨(.str r.name,v')::es',?_,.cons ⟨rfl,l,sv,h4,h5⟩ a1⟩
   rw[aU]
   have hpc:(V.str r.name).cells.all Ax.plainCell=true:=rfl
   have ht:=sv.tag
   rcases h3 with⟨rfl,-⟩ | ⟨b',cs,ex,rfl,-⟩
   ·simp only[hpc,b9,e2,ht,e1]
   ·simp only[hpc,b9,e2,ht,e1]
 obtain⟨es',e1,a1⟩:=key ha
 refine⟨es',?_,a1⟩
 have e:bI U E.ty false 12 (.mp b)=some (.imp false es'):=by
  rw[bI]
  simp only[hb]
  exact au (λo=>match o with
   |some l=>some (V.imp false l)
   |none=>none) e1
 show aQ.one U E.ty false (.mp b)=_
 unfold aQ.one
 rw[show eE=12 from rfl,e]
 rfl
end
end
section
section
variable {E:Env}{Z:Sg}{K:V->Sg->Prop}
theorem Vv (h:bJ E) {τ0 U:Sg}{w p1 p2 p3 p4:V}{l:List bD}{r:aD}{y mA:Nat}{es:List (V × V)}{N:aD->bD->Prop}{rs:List aD} (ow:bH aM 9 U w l)(hl:l.length<=1000000) (kp:Kp τ0 U) (fr:∀b,aZ w=some b->τ0.length<=b)(hy:τ0[y]?=some (O.cells 46 [.str r.name,p1,p2,p3,p4] true))(hA:τ0[mA]?=some (.map es))(ha:DX τ0 N es rs)(hn:∀q∈rs,q.name≠r.name)(hm:∀x,x∈l ↔ N r x)
  (F:FT) (g8:F.get 8=.mp mA) (g10:F.get 10=.ref y 0) (g11:F.get 11=w) {st:List iW}{Q:Ax.X->Fr->Sg->Prop}
  (hk:∀F' τ' es',(∀k,k∈[0,3,8,37,38,39]->F'.get k=F.get k)->τ'[mA]?=some (.map es')->DX τ' N es' (rs++[r])->(∀(c:Nat) (o:O),τ0[c]?=some o->c≠mA->τ'[c]?=some o)->M E st .normal ⟨74,F'⟩ τ' Q):R E (.region 24 (opsOf (cutAt [1,1,1,1,0,1,2,2,1,1,0,2,1,1,1,1] (aA Tryz.f158).code)) true) st ⟨74,F⟩ U Q:=by
 obtain⟨n,v,τ1,hcall,⟨l',ol,hle,hmem⟩,hbk,sp,hlen⟩:=N4 h ow hl
 have kp1:Kp τ0 τ1:=λc o hc=>sp c o (kp c o hc) λe=>absurd (AS.1 hc).1 (by have:=fr c e;omega)
 have hy0:=kp _ _ hy
 have hy1:=kp1 _ _ hy
 have hA1:=kp1 _ _ hA
 obtain⟨hu,ha2⟩:=RL h hA1 (ha.keep hA λc o hc _=>kp1 c o hc) hn ol (by omega) (λx=>(hmem x).trans (hm x))
 have vs:=wU 11 r.name
 have key:∃F',bG E (ev E n) (opsOf (cutAt [1,1,1,1,0,1,2,2,1,1,0,2,1,1,1,1] (aA Tryz.f158).code)) ⟨74,F⟩ U=some (⟨74,F'⟩,τ1.set mA (.map (es++[(.str r.name,v)])))/\(∀k,k∈[0,3,8,37,38,39]->F'.get k=F.get k):=by
  unfold bG
  rw[h.RF,h.R_]
  simp only[aA,Tryz.f158,KP,Ax.loadAt,↓reduceIte,reduceEqDiff,reduceLT,reduceAdd,reduceCtorEq,h.cM,h.bC,opsOf,cutAt,eJ,bB,bQ,iX,Ax.comp,Ax.last,dM,Ax.again,aS,g8,g10,g11,hy0,hy1,hcall,hu,vs]
  refine⟨_,rfl,λk hk=>?_⟩
  simp only[By,br,dz]at hk
  rcases hk with rfl | rfl | rfl | rfl | rfl | rfl <;> simp +decide only[GS]
 obtain⟨F',hD,h1⟩:=key
 refine Eq.mpr (fP hD) (hk F' _ _ h1 (by rw[bp (AS.1 hA1).1]) ha2 λc o hc hcm=>?_)
 rw[OF (jo hcm)]
 exact kp1 c o hc
end
end
end Go.Proofs.YtmbikbgdbbcbmaaGreatDoor
end
