/- Part 16 of the proof. -/
import Derived.Test.YtmhchflckonklaaGreatDoorY
import Derived.Test.YtmhchflckonklaaGreatDoorZ15
import Derived.Test.YtmhchflckonklaaGreatDoorZ2
import Derived.Deep.Slices
import Derived.Test.YtmhchflckonklaaGreatDoorZ3
import Derived.Deep.SlicePairs
import Derived.Test.YtmhchflckonklaaGreatDoorZ14
import Derived.KernelRfl
set_option maxHeartbeats 8000000
set_option linter.unusedVariables false
set_option maxRecDepth 100000
open Nat (reduceLT reduceAdd reduceEqDiff reduceLeDiff reduceMul)
open List (map_nil)
open Int (reduceNeg)
section
namespace Go.Proofs.YtmhchflckonklaaGreatDoor
open Go Go.Ax Go.AxS
section
section
variable {E:Env}{Z:Sg}{K:V->Sg->Prop}
def Av (c:Nat->Nat->Bool) (i:Nat) (g:Nat->Bool):Nat->Nat->Bool:=λx=>if x=i then g else c x
theorem H6 {ex:Bool}{n i:Nat}{c c':Nat->Nat->Bool}(h:∀j,j<i->c j=c' j):p_ ex n i c=p_ ex n i c':=by
 unfold p_
 refine au _ (jm λj hj=>?_)
 rw[h j (l5.1 hj)]
theorem Ub (h:bK E) {ex:Bool}{n i:Nat}{c:Nat->Nat->Bool}{g:Nat->Bool}(hi:i<n):storeAt E (p_ ex n i c++[.cells 4 (lW n g) ex]) 99 (.ref 0 i) (.sl (i+1) 0 n none)=some (p_ ex n (i+1) (Av c i g)):=by
 have:=NZ (ex:=ex) (c:=Av c i g) h hi
 rw[H6 (c:=Av c i g) (c':=c) (λj hj=>by unfold Av;rw[az (by omega)]),show Av c i g i=g from bf rfl]at this
 exact this
theorem Ia {c:Nat->Nat->Bool}{i k:Nat}{g:Nat->Bool}{b:Bool}:H_ (Av c i g) i k b=Av c i (λy=>if y=k then b else g y):=by
 funext x y
 unfold H_ Av
 by_cases hx:x=i
 ·simp[hx]
 ·simp[hx]
theorem Mp (n:Nat):fR n [V.bool false]=lW n λ_=>false:=by
 have:∀n:Nat,fR n [V.bool false]=List.replicate n (V.bool false):=by
  intro n
  induction n with
  |zero=>rfl
  |succ n ih=>rw[fR,ih];rfl
 rw[this]
 unfold lW
 rw[List.map_const',l6]
theorem EB (n:Nat):fR n [V.aF]=sA n 0:=by
 have:∀n:Nat,fR n [V.aF]=List.replicate n V.aF:=by
  intro n
  induction n with
  |zero=>rfl
  |succ n ih=>rw[fR,ih];rfl
 rw[this];rfl
theorem CY {rs:List aD}{f:bH}{k:Nat}(h:eW rs f=some k):k<rs.length:=by
 unfold eW at h
 generalize (λr:aD=>decide (f∈r.outs))=p at h
 induction rs generalizing k with
 |nil=>cases h
 |cons r rs ih=>
  rw[bI]at h
  split at h
  ·cases h;simp
  ·obtain⟨j,hj,rfl⟩:=Option.map_eq_some_iff.1 h
   have:=ih hj;simp only[af];omega
theorem Ex {rs:List aD}{f:bH}{k:Nat}(h:gB rs f=some k):k<rs.length:=by
 unfold gB at h
 generalize (λr:aD=>decide (r.name=f))=p at h
 induction rs generalizing k with
 |nil=>cases h
 |cons r rs ih=>
  rw[bI]at h
  split at h
  ·cases h;simp
  ·obtain⟨j,hj,rfl⟩:=Option.map_eq_some_iff.1 h
   have:=ih hj;simp only[af];omega
theorem pX {α:Type}{p:α->Bool}{l:List α}{j:Nat}{x:α}(hx:l[j]?=some x):(l.take (j+1)).any p=((l.take j).any p||p x):=by
 rw[dn,hx,List.any_append];simp
structure xH (rs:List aD):Prop where
 len:rs.length<=64
 all:∀x∈rs,Small x
theorem nU:idx none = -1:=rfl
theorem dD {k:Nat}:idx (some k)=(k:Int):=rfl
theorem Ti (h:bK E) {a:V}{rs:List aD}(ha:LS dO 46 Z a rs)(hs:xH rs) (data:Bool):aB E 78 [a,.bool data] Z λv σ'=>σ'=Z/\jG pZ v (FZ rs.length (jS rs data)):=by
 obtain⟨a',ea,ia⟩:=eJ h ha
 rw[aI h.hs78 h.sp78 h.fn78 h.md78 (args':=[a',.bool data]) (by simp only[aW,ea,show aT Z E.ty true (.bool data)=some (.bool data) from rfl]),aY (by kernel_rfl)]
 have la:=cZ h ia
 have hn:=hs.len
 generalize hN:rs.length=n at *
 have c2:decide ((n:Int)*((24:Nat):Int)<=1099511627776)=true:=AT (by omega)
 have c3:decide ((n:Int)<=1099511627776)=true:=AT (by omega)
 have c4:decide ((n:Int)*((1:Nat):Int)<=1099511627776)=true:=AT (by omega)
 have hinit:([O.cells 99 (sA n 0) true]:Sg)=p_ true n 0 (jS rs data):=rfl
 simp only[aA,Tryz.f78,KP,↓reduceIte,reduceLT,reduceAdd,reduceCtorEq,h.tQ,h.oB,la,c2,c3,EB,cv,Int.le_refl,hinit]
 refine aS (λi F Y=>Y=p_ true n i (jS rs data)/\F.get 0=a'/\F.get 1=.bool data/\F.get 5=.sl 0 0 n none/\F.get 6=.int .i64 (i:Int)) n ?_ ?_ n 0 _ _ (by omega) ⟨rfl,(by simp +decide only[GS,ag])⟩
 ·rintro i F Y hi ⟨rfl,g0,g1,g5,g6⟩ next
  obtain⟨r,hr⟩:∃y,rs[i]?=some y:=⟨_,BY (by omega)⟩
  have hsr:=hs.all r (aa hr)
  have a1:=hsr.ins
  have a3:=hsr.after
  obtain⟨g,p1,p2,p3,p4,e1,i1,i2,i3,i4⟩:=eH h ia hr
  have l1:=bU h i1
  have l3:=bU h i3
  have hlt:=dG hi
  have hadd:=bQ i (by omega)
  have x1:=Gf h hi
  have s1:=Ub (ex:=true) (c:=jS rs data) (g:=λ_=>false) h hi
  rw[aC]
  simp only[KP,↓reduceIte,reduceEqDiff,reduceLT,reduceCtorEq,Lg h,h.tR,h.bC,h.bM,h.oB,g0,g5,g6,la,hlt,e1,l1,c3,c4,Mp,cv,Int.le_refl,De,x1,s1]
  generalize hc:jS rs data=c at *
  have hmem:∀x∈rs,x.outs.length<=4294967296:=λx hx=>by have:=(hs.all x hx).outs;omega
  refine aS (λj F Y=>Y=p_ true n (i+1) (Av c i λk=>(r.ins.take j).any λf=>decide (eW rs f=some k))/\F.get 0=a'/\F.get 1=.bool data/\F.get 5=.sl 0 0 n none/\F.get 6=.int .i64 (i:Int)/\F.get 32=p1/\F.get 33=.int .i64 (r.ins.length:Int)/\F.get 34=.int .i64 (j:Int)) r.ins.length ?_ ?_ r.ins.length 0 _ _ (by omega) ⟨by simp,(by simp +decide only[GS,g0,g1,g5,g6,ag])⟩
  ·rintro j F Y hj ⟨rfl,g0,g1,g5,g6,g32,g33,g34⟩ next2
   obtain⟨f,hf⟩:∃y,r.ins[j]?=some y:=⟨_,BY hj⟩
   obtain⟨g,e2⟩:=g_ h i1 hf
   have hlt2:=dG hj
   have hadd2:=bQ j (by omega)
   generalize hC:(Av c i λk=>(r.ins.take j).any λf=>decide (eW rs f=some k))=C
   have km:=Lr (Z:=p_ true n (i+1) C) h (s:=f) (ia.ls _ 46) hmem (by omega)
   rw[aC]
   cases hm:eW rs f with
   |none=>
    simp only[KP,↓reduceIte,reduceEqDiff,reduceLT,reduceCtorEq,Int.reduceLE,reduceNeg,sJ h,g0,g32,g33,g34,hlt2,e2,km,hm,nU,hadd2]
    refine next2 _ _ ⟨?_,(by simp +decide only[GS,g0,g1,g5,g6,g32,g33,ag])⟩
    rw[<- hC]
    refine au _ (au _ (funext λk=>?_))
    rw[pX hf,hm];simp
   |some k=>
    have hk:=CY hm
    rw[hN]at hk
    have c0:decide ((0:Int)<=(k:Int))=true:=AT (by omega)
    have x2:=F9 (ex:=true) (c:=C) h (show i<i+1 by omega) (n:=n)
    have x3:=C9 h (j:=i) hk
    have x4:=Jg (ex:=true) (c:=C) (b:=true) h (show i<i+1 by omega) hk
    simp only[KP,↓reduceIte,reduceEqDiff,reduceLT,reduceCtorEq,sJ h,g0,g5,g6,g32,g33,g34,hlt2,e2,km,hm,dD,x1,x2,x3,x4,hadd2]
    refine next2 _ _ ⟨?_,(by simp +decide only[GS,g0,g1,g5,g6,g32,g33,ag])⟩
    rw[<- hC,Ia]
    refine au _ (au _ (funext λy=>?_))
    rw[pX hf,hm]
    by_cases hy:y=k
    ·subst hy;simp
    ·rw[az hy,AS (λe=>hy (dc e).symm),ou]
  ·rintro F Y ⟨rfl,g0,g1,g5,g6,g32,g33,g34⟩
   have hlt2:=dH (b9 r.ins.length)
   rw[ah (ae _)]
   rw[aC]
   simp only[KP,↓reduceIte,reduceEqDiff,reduceLT,reduceCtorEq,Lg h,h.bC,h.bM,g0,g6,g33,g34,hlt2,e1,l3]
   refine aS (λj F Y=>Y=p_ true n (i+1) (Av c i λk=>(r.ins.any λf=>decide (eW rs f=some k))||(!data&&(r.after.take j).any λm=>decide (gB rs m=some k)))/\F.get 0=a'/\F.get 1=.bool data/\F.get 5=.sl 0 0 n none/\F.get 6=.int .i64 (i:Int)/\F.get 54=p3/\F.get 55=.int .i64 (r.after.length:Int)/\F.get 56=.int .i64 (j:Int)) r.after.length ?_ ?_ r.after.length 0 _ _ (by omega) ⟨by simp,(by simp +decide only[GS,g0,g1,g5,g6,ag])⟩
   ·rintro j F Y hj ⟨rfl,g0,g1,g5,g6,g32,g33,g34⟩ next2
    obtain⟨f,hf⟩:∃y,r.after[j]?=some y:=⟨_,BY hj⟩
    obtain⟨g,e2⟩:=g_ h i3 hf
    have hlt2:=dG hj
    have hadd2:=bQ j (by omega)
    generalize hC:(Av c i λk=>(r.ins.any λf=>decide (eW rs f=some k))||(!data&&(r.after.take j).any λm=>decide (gB rs m=some k)))=C
    have km:=Vm (Z:=p_ true n (i+1) C) h (s:=f) (ia.ls _ 46) (by omega)
    rw[aC]
    cases hm:gB rs f with
    |none=>
     simp only[KP,↓reduceIte,reduceEqDiff,reduceLT,reduceCtorEq,Int.reduceLE,reduceNeg,sJ h,g0,g32,g33,g34,hlt2,e2,km,hm,nU,hadd2]
     refine next2 _ _ ⟨?_,(by simp +decide only[GS,g0,g1,g5,g6,g32,g33,ag])⟩
     rw[<- hC]
     refine au _ (au _ (funext λk=>?_))
     rw[pX hf,hm];simp
    |some k=>
     have hk:=Ex hm
     rw[hN]at hk
     have c0:decide ((0:Int)<=(k:Int))=true:=AT (by omega)
     cases data with
     |true=>
      simp only[KP,↓reduceIte,reduceEqDiff,reduceLT,reduceCtorEq,sJ h,g0,g1,g32,g33,g34,hlt2,e2,km,hm,dD,hadd2]
      refine next2 _ _ ⟨?_,(by simp +decide only[GS,g0,g1,g5,g6,g32,g33,ag])⟩
      rw[<- hC]
      refine au _ (au _ (funext λk=>?_))
      simp
     |false=>
      have x2:=F9 (ex:=true) (c:=C) h (show i<i+1 by omega) (n:=n)
      have x3:=C9 h (j:=i) hk
      have x4:=Jg (ex:=true) (c:=C) (b:=true) h (show i<i+1 by omega) hk
      simp only[KP,↓reduceIte,reduceEqDiff,reduceLT,reduceCtorEq,sJ h,g0,g1,g5,g6,g32,g33,g34,hlt2,e2,km,hm,dD,x1,x2,x3,x4,hadd2]
      refine next2 _ _ ⟨?_,(by simp +decide only[GS,g0,g1,g5,g6,g32,g33,ag])⟩
      rw[<- hC,Ia]
      refine au _ (au _ (funext λy=>?_))
      rw[pX hf,hm]
      by_cases hy:y=k
      ·subst hy;simp
      ·rw[az hy,AS (λe=>hy (dc e).symm),ou]
   ·rintro F Y ⟨rfl,g0,g1,g5,g6,g32,g33,g34⟩
    have hlt2:=dH (b9 r.after.length)
    rw[ah (ae _)]
    rw[aC]
    simp only[KP,↓reduceIte,reduceEqDiff,reduceLT,g6,g33,g34,hlt2,hadd]
    refine next _ _ ⟨H6 λj hj=>?_,(by simp +decide only[GS,g0,g1,g5,ag])⟩
    unfold Av
    by_cases hji:j=i
    ·subst hji
     rw[bf rfl,<- hc]
     funext k
     unfold jS yP
     rw[hr]
    ·rw[az hji]
 ·rintro F Y ⟨rfl,g0,g1,g5,g6⟩
  have hlt:=dH (b9 n)
  rw[aC]
  obtain⟨v,e1,hv⟩:=G3 (ex:=true) (n:=n) (c:=jS rs data) h
  simp only[KP,↓reduceIte,reduceEqDiff,reduceLT,reduceCtorEq,g0,g5,g6,la,hlt,e1]
  exact hv
end
end
section
section
variable {E:Env}{Z:Sg}{K:V->Sg->Prop}
theorem Kf {rs:List (List V)}{n:Nat}{g:Nat->Bool}(h:dZ fN.P rs ((List.range n).map g)):rs.flatten=lW n g:=by
 have:∀{rs:List (List V)}{l:List Bool},dZ fN.P rs l->rs.flatten=l.map V.bool:=by
  intro rs l h
  induction h with
  |nil=>rfl
  |cons p _ ih=>rw[da,ih,show _=[V.bool _] from p];rfl
 rw[this h,ku];rfl
theorem Tq (h:bK E) {Y:Sg}{v:V}{n:Nat}{g:Nat->Bool}(hn:0<n)(hn2:n<=64) (iv:IS fN v ((List.range n).map g)):Ax.append E Y #[99,99] .aF v=some (.sl Y.length 0 n none,Y++[.cells 4 (lW n g) false]):=by
 obtain⟨rs,e,ha⟩:=nW iv Y
 have hn0:¬ n=0:=by omega
 have e:elems Y 1 v=some (rs.flatten,n):=by rw[bg,l6]at e;exact e
 have hr:lG n 1=true:=Ab (b:=64) (by decide) hn2
 unfold Ax.append
 simp only[show (#[99,99]:Array Nat)[0]?=some 99 from rfl,h.oB,h.tR,A2 h,e,hn0,hr,bh,ay,dh,iu,ai,Kf ha,Nat.reduceBEq]
def wD (m:Nat->Nat->Bool) (k i j:Nat):Nat->Nat->Bool:=λx y=>if x<i\/(x=i/\y<j) then wk m (k+1) x y else wk m k x y
theorem VN {m:Nat->Nat->Bool}{k i j:Nat}:wD m k i j i k=wk m k i k:=by
 unfold wD;split
 ·exact NH k i
 ·rfl
theorem VM {m:Nat->Nat->Bool}{k i j y:Nat}:wD m k i j k y=wk m k k y:=by
 unfold wD;split
 ·exact NG k y
 ·rfl
theorem VO {m:Nat->Nat->Bool}{k i j:Nat}:wD m k i j i j=wk m k i j:=by
 unfold wD;rw[az (by omega)]
theorem S3 {m:Nat->Nat->Bool}{k i j:Nat}{b:Bool}(hb:b=wk m (k+1) i j):H_ (wD m k i j) i j b=wD m k i (j+1):=by
 funext x y
 unfold H_ wD
 by_cases h1:x=i
 ·subst h1
  by_cases h2:y=j
  ·subst h2
   rw[bf ⟨rfl,rfl⟩,bf (by omega),hb]
  ·rw[az (by omega)]
   by_cases h3:y<j
   ·rw[bf (by omega),bf (by omega)]
   ·rw[az (by omega),az (by omega)]
 ·rw[az (by omega)]
  by_cases h3:x<i
  ·rw[bf (by omega),bf (by omega)]
  ·rw[az (by omega),az (by omega)]
theorem vF {ex:Bool}{n i:Nat}{c c':Nat->Nat->Bool}(h:∀j,j<i->∀y,y<n->c j y=c' j y):p_ ex n i c=p_ ex n i c':=by
 unfold p_
 refine au _ (jm λj hj=>?_)
 refine au (λl=>O.cells 4 l ex) (jm λy hy=>?_)
 rw[h j (l5.1 hj) y (l5.1 hy)]
theorem Qw (h:bK E) {a:V}{n:Nat}{m:Nat->Nat->Bool}(hn:n<=64) (ia:IS pZ a (FZ n m)):aB E 91 [a] Z λv σ'=>σ'=Z/\jG pZ v (FZ n (wk m n)):=by
 rw[aI h.hs91 h.sp91 h.fn91 h.md91 (args':=[a]) (by simp only[aW,pE ia Z]),aY (by kernel_rfl)]
 have la:=Pt h ia
 rw[RP]at la
 have c2:decide ((n:Int)*((24:Nat):Int)<=1099511627776)=true:=AT (by omega)
 have c3:decide ((n:Int)<=1099511627776)=true:=AT (by omega)
 have hinit:([O.cells 99 (sA n 0) true]:Sg)=p_ false n 0 m:=rfl
 have d16:=h.Vz
 simp only[aA,Tryz.f91,cutAt,an]at d16
 simp only[aA,Tryz.f91,KP,↓reduceIte,reduceLT,reduceCtorEq,h.tQ,h.oB,la,c2,c3,EB,cv,Int.le_refl,hinit]
 refine aS (λi F Y=>Y=p_ false n i m/\F.get 0=a/\F.get 3=.int .i64 (n:Int)/\F.get 4=.sl 0 0 n none/\F.get 5=.int .i64 (i:Int)) n ?_ ?_ n 0 _ _ (by omega) ⟨rfl,(by simp +decide only[GS,ag])⟩
 ·rintro i F Y hi ⟨rfl,g0,g3,g4,g5⟩ next
  obtain⟨g,r,e1,rv,hr,irv⟩:=LR h ia (K9 hi)
  have e1:indexAddr E 61 a (.int .i64 (i:Int))=some (.cL g [rv]):=by rw[e1,hr]
  have hlt:=dG hi
  have hadd:=bQ i (by omega)
  have x1:=Gf h hi
  have ha:=Tq (Y:=p_ false n i m) h (by omega) hn irv
  rw[De]at ha
  have s1:=NZ (ex:=false) (c:=m) h hi
  rw[aC]
  simp only[KP,↓reduceIte,reduceEqDiff,reduceLT,reduceCtorEq,mU h,g0,g3,g4,g5,hlt,e1,x1,ha,s1,hadd]
  exact next _ _ ⟨rfl,(by simp +decide only[GS,g0,g3,g4,ag])⟩
 ·rintro F Y ⟨rfl,g0,g3,g4,g5⟩
  have hlt:=dH (b9 n)
  rw[aC]
  simp only[KP,↓reduceIte,reduceEqDiff,reduceLT,g3,g5,hlt]
  refine aS (λk F Y=>Y=p_ false n n (wk m k)/\F.get 3=.int .i64 (n:Int)/\F.get 4=.sl 0 0 n none/\F.get 6=.int .i64 (k:Int)) n ?_ ?_ n 0 _ _ (by omega) ⟨rfl,(by simp +decide only[GS,g3,g4,ag])⟩
  ·rintro k F Y hk ⟨rfl,g3,g4,g6⟩ next
   have hlt:=dG hk
   have haddk:=bQ k (by omega)
   rw[aC]
   simp only[KP,↓reduceIte,reduceEqDiff,reduceLT,g3,g6,hlt]
   refine aS (λi F Y=>Y=p_ false n n (wD m k i 0)/\F.get 3=.int .i64 (n:Int)/\F.get 4=.sl 0 0 n none/\F.get 6=.int .i64 (k:Int)/\F.get 7=.int .i64 (i:Int)) n ?_ ?_ n 0 _ _ (by omega) ⟨vF λx hx y hy=>by unfold wD;rw[az (by omega)],(by simp +decide only[GS,g3,g4,g6,ag])⟩
   ·rintro i F Y hi ⟨rfl,g3,g4,g6,g7⟩ next2
    have hlt:=dG hi
    have haddi:=bQ i (by omega)
    rw[aC]
    simp only[KP,↓reduceIte,reduceEqDiff,reduceLT,g3,g7,hlt]
    refine aS (λj F Y=>Y=p_ false n n (wD m k i j)/\F.get 3=.int .i64 (n:Int)/\F.get 4=.sl 0 0 n none/\F.get 6=.int .i64 (k:Int)/\F.get 7=.int .i64 (i:Int)/\F.get 8=.int .i64 (j:Int)) n ?_ ?_ n 0 _ _ (by omega) ⟨rfl,(by simp +decide only[GS,g3,g4,g6,g7,ag])⟩
    ·rintro j F Y hj ⟨rfl,g3,g4,g6,g7,g8⟩ next3
     have hlt:=dG hj
     have haddj:=bQ j (by omega)
     have v1:=VN (m:=m) (k:=k) (i:=i) (j:=j)
     have v2:=VM (m:=m) (k:=k) (i:=i) (j:=j) (y:=j)
     have v3:=VO (m:=m) (k:=k) (i:=i) (j:=j)
     have v4:=λb hb=>S3 (m:=m) (k:=k) (i:=i) (j:=j) (b:=b) hb
     have v5:wk m k i k=false->p_ false n n (wD m k i j)=p_ false n n (wD m k (i+1) 0):=λhb=>vF λx hx y hy=>by
      unfold wD
      by_cases h1:x=i
      ·subst h1
       rw[bf (show x<x+1\/x=x+1/\y<0 by omega)]
       split
       ·rfl
       ·rw[wk,hb];simp
      ·by_cases h3:x<i
       ·rw[bf (by omega),bf (by omega)]
       ·rw[az (by omega),az (by omega)]
     generalize hC:wD m k i j=C at *
     have y1:=Gf h hi
     have y2:=F9 (ex:=false) (c:=C) h hi (n:=n)
     have y3:=C9 h (j:=i) hk
     have y4:=JK (ex:=false) (c:=C) h hi hk
     have y5:=C9 h (j:=i) hj
     have y6:=JK (ex:=false) (c:=C) h hi hj
     have z1:=Gf h hk
     have z2:=F9 (ex:=false) (c:=C) h hk (n:=n)
     have z3:=C9 h (j:=k) hj
     have z4:=JK (ex:=false) (c:=C) h hk hj
     have st1:=λb=>Jg (ex:=false) (c:=C) (b:=b) h hi hj
     rw[v1]at y4
     rw[v3]at y6
     rw[v2]at z4
     rw[aC]
     cases w1:wk m k i k with
     |false=>
      simp only[KP,↓reduceIte,reduceEqDiff,reduceLT,g3,g4,g6,g7,g8,hlt,y1,y2,y3,y4,w1,haddi]
      rw[v5 w1]
      exact next2 _ _ ⟨rfl,(by simp +decide only[GS,g3,g4,g6,ag])⟩
     |true=>
      have w3:∀b,b=(wk m k i j||wk m k k j)->H_ C i j b=wD m k i (j+1):=λb hb=>v4 b (by rw[hb,wk,w1,jf])
      cases w2:wk m k i j with
      |true=>
       simp only[KP,↓reduceIte,reduceEqDiff,reduceLT,g3,g4,g6,g7,g8,hlt,y1,y2,y3,y4,y5,y6,w1,w2,st1,haddj,aK d16,bB]
       rw[w3 true (by rw[w2];rfl)]
       exact next3 _ _ ⟨rfl,(by simp +decide only[GS,g3,g4,g6,g7,ag])⟩
      |false=>
       simp only[KP,↓reduceIte,reduceEqDiff,reduceLT,g3,g4,g6,g7,g8,hlt,y1,y2,y3,y4,y5,y6,z1,z2,z3,z4,w1,w2,st1,haddj,aK d16,bB]
       rw[w3 _ (by rw[w2,Bool.false_or])]
       exact next3 _ _ ⟨rfl,(by simp +decide only[GS,g3,g4,g6,g7,ag])⟩
    ·rintro F Y ⟨rfl,g3,g4,g6,g7,g8⟩
     have hlt:=dH (b9 n)
     have v5:p_ false n n (wD m k i n)=p_ false n n (wD m k (i+1) 0):=vF λx hx y hy=>by
      unfold wD
      by_cases h3:x<i+1
      ·rw[bf (by omega),bf (by omega)]
      ·rw[az (by omega),az (by omega)]
     rw[aC]
     simp only[KP,↓reduceIte,reduceEqDiff,reduceLT,g3,g7,g8,hlt,haddi]
     rw[v5]
     exact next2 _ _ ⟨rfl,(by simp +decide only[GS,g3,g4,g6,ag])⟩
   ·rintro F Y ⟨rfl,g3,g4,g6,g7⟩
    have hlt:=dH (b9 n)
    have v5:p_ false n n (wD m k n 0)=p_ false n n (wk m (k+1)):=vF λx hx y hy=>by
     unfold wD
     rw[bf (by omega)]
    rw[aC]
    simp only[KP,↓reduceIte,reduceEqDiff,reduceLT,g3,g6,g7,hlt,haddk]
    rw[v5]
    exact next _ _ ⟨rfl,(by simp +decide only[GS,g3,g4,ag])⟩
  ·rintro F Y ⟨rfl,g3,g4,g6⟩
   have hlt:=dH (b9 n)
   obtain⟨v,e1,hv⟩:=G3 (ex:=false) (n:=n) (c:=wk m n) h
   rw[aC]
   simp only[KP,↓reduceIte,reduceEqDiff,reduceLT,g3,g4,g6,hlt,e1]
   exact hv
end
end
section
section
variable {E:Env}{Z:Sg}{K:V->Sg->Prop}
theorem wX (h:bK E) {v:V}{n:Nat}{c:Nat->Nat->Bool} (iv:IS pZ v (FZ n c)) {i k:Nat}(hi:i<n)(hk:k<n):∃g rv g2,indexAddr E 61 v (.int .i64 (i:Int))=some (.cL g [rv])/\indexAddr E 99 rv (.int .i64 (k:Int))=some (.cL g2 [.bool (c i k)]):=by
 obtain⟨g,r,e1,rv,hr,irv⟩:=LR h iv (K9 hi)
 obtain⟨g2,r2,e2,hr2⟩:=QD h irv (Ry hk)
 exact⟨g,rv,g2,by rw[e1,hr],by rw[e2,show r2=[.bool (c i k)] from hr2]⟩
theorem Aq (h:bK E) {n i:Nat}(hi:i<n):indexAddr E 109 (.sl 0 0 n none) (.int .i64 (i:Int))=some (.ref 0 i):=by
 have hneg:¬ ((i:Int)<0):=by omega
 unfold indexAddr
 simp only[hneg,ay,h.NR,h.nQ,cv,hi,bh,dj,mj]
theorem F_ (h:bK E) {Y:Sg}{bD:List Int}{i:Nat}(hb:Y[0]?=some (O.cells 3 (bD.map (V.int .i64)) true))(hi:i<bD.length):loadAt E Y 3 (.ref 0 i)=some (.int .i64 (eT bD i)):=by
 unfold loadAt
 simp only[h.nQ,hb,Ax.isAgg,ai,ay,mm,BY hi,bw]
 unfold eT
 rw[BY hi];rfl
theorem Ef (x:Int)(h1:-9223372036854775808<=x)(h2:x<=9223372036854775807):wr .i64 x=x:=by
 rw[zS,bf]
 have h3:lo .i64 = -9223372036854775808:=rfl
 have h4:hi .i64=9223372036854775807:=rfl
 rw[h3,h4,aj,OF,OF]
 exact⟨h1,h2⟩
structure abu (rs:List aD) (n first:Nat) (m:Nat->Nat->Bool) (bD:List Int):Prop where
 cnt:rs.length=n
 le:n<=64
 bD:mP m n first (n+1) 0 0 bD
theorem RF {Y:Sg}{w:V}{l:List bH}{bD:List Int}(hb:Y[0]?=some (O.cells 3 (bD.map (V.int .i64)) true)) (ow:aV aQ 9 Y w l):aR w≠some 0:=by
 refine kR hb (by decide) ow
theorem PZ (h:bK E) {a vm:V}{rs:List aD}{n first:Nat}{m:Nat->Nat->Bool}{bD:List Int} (t:abu rs n first m bD) (ia:IS dO a rs) (im:IS pZ vm (FZ n m)) {Y:Sg}{w:V}{l:List bH}{at_ left:Nat} (b0:Y[0]?=some (O.cells 3 (bD.map (V.int .i64)) true)) (ow:aV aQ 9 Y w l)(hl:l≠[]/\l.length+left<=100)(hat:at_<n)(hle:0<left->∃k,k<n/\m at_ k=true/\eT bD k=(left:Int))
  (F:FT) (g0:F.get 0=a) (g3:F.get 3=vm) (g7:F.get 7=.sl 0 0 n none) (g14:F.get 14=w) (g15:F.get 15=.int .i64 (at_:Int)) (g16:F.get 16=.int .i64 (left:Int))
  (hk:∀Y w l,l≠[]->aV aQ 9 Y w l->K w Y):R E (.loop (cutAt [1,1,1,1,1,1,1,1,1,1,1,1,1,1,0,1,2,2] (aA Tryz.f114).code)) [.blk 12,.k (cutAt [1,1,1,1,1,1,1,1,1,1,1,1,1,1,1] (aA Tryz.f114).code)] ⟨216,F⟩ Y (mS E (aA Tryz.f114).results K):=by
 have tn:=t.cnt
 have tl:=t.le
 have tfl:=t.bD.len
 have la:=cZ h ia
 rw[tn]at la
 have d44:=h.SX
 simp only[aA,Tryz.f114,cutAt,an]at d44
 refine aS (λi F Y=>Y[0]?=some (O.cells 3 (bD.map (V.int .i64)) true)/\F.get 0=a/\F.get 3=vm/\F.get 7=.sl 0 0 n none/\F.get 16=.int .i64 ((left-i:Nat):Int)/\(∃w l,F.get 14=w/\aV aQ 9 Y w l/\l≠[]/\l.length+(left-i)<=100)/\∃q:Nat,F.get 15=.int .i64 (q:Int)/\q<n/\(0<left-i->∃k,k<n/\m q k=true/\eT bD k=((left-i:Nat):Int))) left ?_ ?_ left 0 _ _ (by omega) ⟨b0,g0,g3,g7,g16,⟨w,l,g14,ow,hl⟩,at_,g15,hat,hle⟩
 ·rintro i F Y hi ⟨b0,g0,g3,g7,g16,⟨w,l,g14,ow,hl1,hl2⟩,q,g15,hq,hex⟩ next
  obtain⟨k0,hk0,hm0,hf0⟩:=hex (by omega)
  generalize hL:left-i=L at *
  have hgt:decide ((0:Int)<(L:Int))=true:=AT (by omega)
  have hdn:=Eg L (by omega) (by omega)
  rw[aC]
  simp only[aA,Tryz.f114,KP,↓reduceIte,reduceLT,reduceNeg,cutAt,g16,hgt]
  refine aS (λk F τ'=>τ'=Y/\F.get 0=a/\F.get 3=vm/\F.get 7=.sl 0 0 n none/\F.get 14=w/\F.get 15=.int .i64 (q:Int)/\F.get 16=.int .i64 (L:Int)/\F.get 18=.int .i64 (k:Int)/\∃o:Option Nat,F.get 17=.int .i64 (idx o)/\((o=none/\∀j,j<k->¬ (m q j=true/\eT bD j=(L:Int)))\/∃p,o=some p/\p<n/\m q p=true/\eT bD p=(L:Int))) n ?_ ?_ n 0 _ _ (by omega) ⟨rfl,(Fb (by simp +decide only[GS,g0,g3,g7,g14,g15,g16,ag]) ⟨none,(by simp +decide only[GS,nU]),.inl ⟨rfl,λj hj=>by omega⟩⟩)⟩
  ·rintro k F τ' hk ⟨rfl,g0,g3,g7,g14,g15,g16,g18,o,g17,ho⟩ next2
   have hlt:=dG hk
   have hadd:=bQ k (by omega)
   obtain⟨u1,rv,u2,e1,e2⟩:=wX h im hq hk
   have e3:=Aq h hk
   have e4:=F_ h b0 (i:=k) (by omega)
   obtain⟨rk,hrk⟩:∃y,rs[k]?=some y:=⟨_,BY (by omega)⟩
   obtain⟨v1,p1,p2,p3,p4,e5,-⟩:=eH h ia hrk
   rw[aC]
   cases c1:m q k with
   |false=>
    simp only[KP,↓reduceIte,reduceEqDiff,reduceLT,reduceCtorEq,reduceNeg,uH h,mU h,g0,g3,g15,g18,la,hlt,e1,e2,c1,hadd,aK d44,bB]
    refine next2 _ _ ⟨rfl,(Fb (by simp +decide only[GS,g0,g3,g7,g14,g15,g16,ag]) ⟨o,(by simp +decide only[GS,g17]),ho.imp (λ⟨h1,h2⟩=>⟨h1,λj hj=>?_⟩) id⟩)⟩
    rcases bz j k with g | g
    ·exact h2 j g
    ·obtain rfl:j=k:=by omega
     rw[c1];simp
   |true=>
    by_cases c2:eT bD k=(L:Int)
    case neg=>
     have d2:decide (eT bD k=(L:Int))=false:=AS c2
     simp only[KP,↓reduceIte,reduceEqDiff,reduceLT,reduceCtorEq,reduceNeg,uH h,mU h,g0,g3,g7,g15,g16,g18,la,hlt,e1,e2,e3,e4,c1,d2,hadd,aK d44,bB]
     refine next2 _ _ ⟨rfl,(Fb (by simp +decide only[GS,g0,g3,g7,g14,g15,g16,ag]) ⟨o,(by simp +decide only[GS,g17]),ho.imp (λ⟨h1,h2⟩=>⟨h1,λj hj=>?_⟩) id⟩)⟩
     rcases bz j k with g | g
     ·exact h2 j g
     ·obtain rfl:j=k:=by omega
      exact λe=>c2 e.2
    have d2:decide (eT bD k=(L:Int))=true:=AT c2
    rcases ho with⟨rfl,-⟩ | ⟨p,rfl,hp,hmp,hfp⟩
    ·simp only[KP,↓reduceIte,reduceEqDiff,reduceLT,reduceCtorEq,Int.reduceLT,reduceNeg,uH h,mU h,g0,g3,g7,g15,g16,g17,g18,la,hlt,e1,e2,e3,e4,c1,d2,hadd,nU,aK d44,bB]
     exact next2 _ _ ⟨rfl,(Fb (by simp +decide only[GS,g0,g3,g7,g14,g15,g16,ag]) ⟨some k,(by simp +decide only[GS,dD]),.inr ⟨k,rfl,hk,c1,c2⟩⟩)⟩
    ·have c0:decide ((p:Int)<0)=false:=AS (by omega)
     obtain⟨rp,hrp⟩:∃y,rs[p]?=some y:=⟨_,BY (by omega)⟩
     obtain⟨v2,q1,q2,q3,q4,e6,-⟩:=eH h ia hrp
     cases c3:Ax.slt rk.name rp.name with
     |true=>
      simp only[KP,↓reduceIte,reduceEqDiff,reduceLT,reduceCtorEq,reduceNeg,uH h,sJ h,mU h,h.c_,h.bM,g0,g3,g7,g15,g16,g17,g18,la,hlt,e1,e2,e3,e4,e5,e6,c1,d2,c0,c3,hadd,dD,aK d44,bB]
      exact next2 _ _ ⟨rfl,(Fb (by simp +decide only[GS,g0,g3,g7,g14,g15,g16,ag]) ⟨some k,(by simp +decide only[GS,dD]),.inr ⟨k,rfl,hk,c1,c2⟩⟩)⟩
     |false=>
      simp only[KP,↓reduceIte,reduceEqDiff,reduceLT,reduceCtorEq,reduceNeg,uH h,sJ h,mU h,h.c_,h.bM,g0,g3,g7,g15,g16,g17,g18,la,hlt,e1,e2,e3,e4,e5,e6,c1,d2,c0,c3,hadd,dD,aK d44,bB]
      exact next2 _ _ ⟨rfl,(Fb (by simp +decide only[GS,g0,g3,g7,g14,g15,g16,ag]) ⟨some p,(by simp +decide only[GS,g17]),.inr ⟨p,rfl,hp,hmp,hfp⟩⟩)⟩
  ·rintro F τ' ⟨rfl,g0,g3,g7,g14,g15,g16,g18,o,g17,ho⟩
   have hlt:=dH (b9 n)
   rcases ho with⟨rfl,hno⟩ | ⟨p,rfl,hp,hmp,hfp⟩
   ·exact absurd ⟨hm0,hf0⟩ (hno k0 hk0)
   ·obtain⟨rp,hrp⟩:∃y,rs[p]?=some y:=⟨_,BY (by omega)⟩
    obtain⟨v2,q1,q2,q3,q4,e6,-⟩:=eH h ia hrp
    obtain⟨w2,τ2,ha2,o2,k2,n2⟩:=Gw (s:=rp.name) (ex:=true) h ow (by omega)
    rw[aC]
    simp only[KP,↓reduceIte,reduceEqDiff,reduceLT,reduceLeDiff,reduceMul,reduceCtorEq,reduceNeg,sJ h,h.c_,h.bC,h.bM,g0,g14,g16,g17,g18,la,hlt,e6,dD,lA,ha2,hdn]
    clear hex
    have hLi:L-1=left-(i+1):=by rw[<- hL,Nat.sub_sub]
    have b2:=k2 0 _ (aJ b0) (RF b0 ow)
    refine next _ _ ⟨b2,(fJ (by simp +decide only[GS,g0,g3,g7,ag]) ⟨?_,⟨w2,_,(by simp +decide only[GS]),o2,by simp,?_⟩,p,(by simp +decide only[GS]),hp,λhpos=>?_⟩)⟩
    ·rw[hLi];exact (by simp +decide only[GS])
    ·simp only[ak,af,b8];omega
    ·obtain⟨e,he⟩:∃e:Nat,L=e+1:=⟨L-1,by omega⟩
     obtain⟨k',h1,h2,h3⟩:=t.bD.down p e hp (by rw[hfp,he];omega)
     exact⟨k',h1,h2,by rw[h3];omega⟩
 ·rintro F Y ⟨b0,g0,g3,g7,g16,⟨w,l,g14,ow,hl1,hl2⟩,-⟩
  rw[jc]at g16
  rw[aC]
  simp only[aA,Tryz.f114,KP,↓reduceIte,reduceEqDiff,reduceLT,Int.reduceLT,reduceNeg,cutAt,g16,g14]
  exact hk _ _ _ hl1 ow
end
end
section
section
variable {E:Env}{Z:Sg}{K:V->Sg->Prop}
theorem P4 (h:bK E) {a vm:V}{rs:List aD}{n first:Nat}{m:Nat->Nat->Bool}{bD:List Int} (t:abu rs n first m bD) (ia:IS dO a rs) (im:IS pZ vm (FZ n m))(hf:first<n)(hex:∃k,k<n/\m first k=true/\0<=eT bD k)
  (F:FT) (g0:F.get 0=a) (g3:F.get 3=vm) (g5:F.get 5=.int .i64 (first:Int)) (g7:F.get 7=.sl 0 0 n none)
  (hk:∀Y w l,l≠[]->aV aQ 9 Y w l->K w Y):R E (cutAt [1,1,1,1,1,1,1,1,1,1] (aA Tryz.f114).code) [] ⟨216,F⟩ [O.cells 3 (bD.map (V.int .i64)) true] (mS E (aA Tryz.f114).results K):=by
 have tn:=t.cnt
 have tl:=t.le
 have tfl:=t.bD.len
 have la:=cZ h ia
 rw[tn]at la
 have b0:([O.cells 3 (bD.map (V.int .i64)) true]:Sg)[0]?=some (O.cells 3 (bD.map (V.int .i64)) true):=rfl
 have key:=λY w l at_ left b0 ow hl hat hle F g0 g3 g7 g14 g15 g16=>PZ (K:=K) h t ia im (Y:=Y) (w:=w) (l:=l) (at_:=at_) (left:=left) b0 ow hl hat hle F g0 g3 g7 g14 g15 g16 hk
 rw[show cutAt [1,1,1,1,1,1,1,1,1,1] (aA Tryz.f114).code=.seq (cutAt [1,1,1,1,1,1,1,1,1,1,0] (aA Tryz.f114).code) (.seq (.seq (cutAt [1,1,1,1,1,1,1,1,1,1,1,0,0] (aA Tryz.f114).code) (.block 10 (.loop (cutAt [1,1,1,1,1,1,1,1,1,1,1,0,1,2,2] (aA Tryz.f114).code)))) (.seq (cutAt [1,1,1,1,1,1,1,1,1,1,1,1,0] (aA Tryz.f114).code) (.seq (cutAt [1,1,1,1,1,1,1,1,1,1,1,1,1,0] (aA Tryz.f114).code) (.seq (.seq (cutAt [1,1,1,1,1,1,1,1,1,1,1,1,1,1,0,0] (aA Tryz.f114).code) (.block 12 (.loop (cutAt [1,1,1,1,1,1,1,1,1,1,1,1,1,1,0,1,2,2] (aA Tryz.f114).code)))) (cutAt [1,1,1,1,1,1,1,1,1,1,1,1,1,1,1] (aA Tryz.f114).code))))) from rfl]
 generalize cutAt [1,1,1,1,1,1,1,1,1,1,1,1,1,1,0,1,2,2] (aA Tryz.f114).code=D at *
 generalize cutAt [1,1,1,1,1,1,1,1,1,1,1,1,1,1,1] (aA Tryz.f114).code=C at *
 simp only[aA,Tryz.f114,KP,↓reduceIte,reduceLT,reduceNeg,cutAt]
 refine aS (λk F Y=>Y=[O.cells 3 (bD.map (V.int .i64)) true]/\F.get 0=a/\F.get 3=vm/\F.get 5=.int .i64 (first:Int)/\F.get 7=.sl 0 0 n none/\F.get 13=.int .i64 (k:Int)/\((F.get 12=.int .i64 0/\∀j,j<k->¬ (m first j=true/\0<=eT bD j))\/∃(q e:Nat),F.get 12=.int .i64 ((e+1:Nat):Int)/\q<n/\m first q=true/\eT bD q=(e:Int))) n ?_ ?_ n 0 _ _ (by omega) ⟨rfl,(iY (by simp +decide only[GS,g0,g3,g5,g7,ag]) (.inl ⟨(by simp +decide only[GS]),λj hj=>by omega⟩))⟩
 ·rintro k F Y hk2 ⟨rfl,g0,g3,g5,g7,g13,ho⟩ next
  have hlt:=dG hk2
  have hadd:=bQ k (by omega)
  obtain⟨u1,rv,u2,e1,e2⟩:=wX h im hf hk2
  have e3:=Aq h hk2
  have e4:=F_ h b0 (i:=k) (by omega)
  rw[aC]
  have hno:¬ (m first k=true/\0<=eT bD k)->((F.get 12=.int .i64 0/\∀j,j<k+1->¬ (m first j=true/\0<=eT bD j))\/∃(q e:Nat),F.get 12=.int .i64 ((e+1:Nat):Int)/\q<n/\m first q=true/\eT bD q=(e:Int)):=λhn=>ho.imp (λ⟨h1,h2⟩=>⟨h1,λj hj=>by
   rcases bz j k with g | g
   ·exact h2 j g
   ·obtain rfl:j=k:=by omega
    exact hn⟩) id
  have tr:∀{F':FT},F'.get 12=F.get 12->¬ (m first k=true/\0<=eT bD k)->((F'.get 12=.int .i64 0/\∀j,j<k+1->¬ (m first j=true/\0<=eT bD j))\/∃(q e:Nat),F'.get 12=.int .i64 ((e+1:Nat):Int)/\q<n/\m first q=true/\eT bD q=(e:Int)):=λhF hn=>by rw[hF];exact hno hn
  cases c1:m first k with
  |false=>
   simp only[KP,↓reduceIte,reduceEqDiff,reduceLT,reduceCtorEq,uH h,mU h,g0,g3,g5,g13,la,hlt,e1,e2,c1,hadd]
   exact next _ _ ⟨rfl,(iY (by simp +decide only[GS,g0,g3,g5,g7,ag]) (tr (by simp +decide only[GS]) (λe=>by rw[c1]at e;cases e.1)))⟩
  |true=>
   by_cases c2:0<=eT bD k
   case neg=>
    have d2:decide (0<=eT bD k)=false:=AS c2
    simp only[KP,↓reduceIte,reduceEqDiff,reduceLT,reduceCtorEq,uH h,mU h,g0,g3,g5,g7,g13,la,hlt,e1,e2,e3,e4,c1,d2,hadd]
    exact next _ _ ⟨rfl,(iY (by simp +decide only[GS,g0,g3,g5,g7,ag]) (tr (by simp +decide only[GS]) (λe=>c2 e.2)))⟩
   obtain⟨e,he⟩:=Int.eq_ofNat_of_zero_le c2
   have hsm:=t.bD.small hk2
   have d2:decide ((0:Int)<=(e:Int))=true:=AT (by omega)
   have hw:=bQ e (by omega)
   rw[he]at e4
   rcases ho with⟨g12,-⟩ | ⟨q,e',g12,hq,hm,hfq⟩
   ·simp only[KP,↓reduceIte,reduceEqDiff,reduceLT,reduceCtorEq,uH h,mU h,g0,g3,g5,g7,g13,g12,la,hlt,e1,e2,e3,e4,c1,hw,hadd]
    exact next _ _ ⟨rfl,(iY (by simp +decide only[GS,g0,g3,g5,g7,ag]) (.inr ⟨k,e,(by simp +decide only[GS]),hk2,c1,he⟩))⟩
   ·have d3:decide (((e'+1:Nat):Int)=0)=false:=AS (by omega)
    cases c3:decide (((e+1:Nat):Int)<((e'+1:Nat):Int)) with
    |true=>
     simp only[KP,↓reduceIte,reduceEqDiff,reduceLT,reduceCtorEq,uH h,mU h,g0,g3,g5,g7,g13,g12,la,hlt,e1,e2,e3,e4,c1,d3,hw,c3,hadd]
     exact next _ _ ⟨rfl,(iY (by simp +decide only[GS,g0,g3,g5,g7,ag]) (.inr ⟨k,e,(by simp +decide only[GS]),hk2,c1,he⟩))⟩
    |false=>
     simp only[KP,↓reduceIte,reduceEqDiff,reduceLT,reduceCtorEq,uH h,mU h,g0,g3,g5,g7,g13,g12,la,hlt,e1,e2,e3,e4,c1,d3,hw,c3,hadd]
     exact next _ _ ⟨rfl,(iY (by simp +decide only[GS,g0,g3,g5,g7,ag]) (.inr ⟨q,e',(by simp +decide only[GS,g12]),hq,hm,hfq⟩))⟩
 ·rintro F Y ⟨rfl,g0,g3,g5,g7,g13,ho⟩
  have hlt:=dH (b9 n)
  rcases ho with⟨-,hno⟩ | ⟨q,e,g12,hq,hm,hfq⟩
  ·obtain⟨k,h1,h2,h3⟩:=hex
   exact absurd ⟨h2,h3⟩ (hno k h1)
  ·have hsm:=t.bD.small hq
   have hw:=Eg (e+1) (by omega) (by omega)
   obtain⟨rf,hrf⟩:∃y,rs[first]?=some y:=⟨_,BY (by omega)⟩
   obtain⟨v1,p1,p2,p3,p4,e5,-⟩:=eH h ia hrf
   rw[aC]
   simp only[KP,↓reduceIte,reduceEqDiff,reduceLT,reduceLeDiff,reduceMul,reduceCtorEq,sJ h,h.c_,h.bC,h.bM,g0,g5,g13,g12,la,hlt,e5,lA,hw]
   refine key [O.cells 3 (bD.map (V.int .i64)) true,.cells 9 [.str rf.name] true] (.sl 1 0 1 none) [rf.name] first e rfl (.inr ⟨1,[[.str rf.name]],true,rfl,rfl,.one rfl⟩) ⟨by simp,by simp only[af,b8];omega⟩ hf (λ_=>⟨q,hq,hm,hfq⟩) _ ?_ ?_ ?_ ?_ ?_ ?_
   ·exact (by simp +decide only[GS,g0])
   ·exact (by simp +decide only[GS,g3])
   ·exact (by simp +decide only[GS,g7])
   ·exact (by simp +decide only[GS])
   ·exact (by simp +decide only[GS])
   ·exact (by simp +decide only[GS,nq])
theorem Jh (h:bK E) {bD:List Int}{i:Nat}{d:Int}(hi:i<bD.length):storeAt E [O.cells 3 (bD.map (V.int .i64)) true] 3 (.ref 0 i) (.int .i64 d)=some [O.cells 3 ((bD.set i d).map (V.int .i64)) true]:=by
 unfold storeAt
 have h0:([O.cells 3 (bD.map (V.int .i64)) true]:Sg)[0]?=some (O.cells 3 (bD.map (V.int .i64)) true):=rfl
 simp only[h.nQ,h0]
 rw[bf (by simp only[V.cells,V.aZ,af,b8,ig,js,bg,ki,aj,OF];exact⟨rfl,by omega⟩)]
 refine au some ?_
 show [O.cells 3 (setCells (bD.map (V.int .i64)) i [V.int .i64 d]) true]=_
 have:setCells (bD.map (V.int .i64)) i [V.int .i64 d]=(bD.set i d).map (V.int .i64):=by
  unfold setCells
  rw[List.map_set,List.set_eq_take_append_cons_drop,bf (by simpa using hi)]
  simp
 rw[this]
theorem S0 (h:bK E) {a vm:V}{rs:List aD}{n first:Nat}{m:Nat->Nat->Bool}(hn:rs.length=n)(hle:n<=64) (ia:IS dO a rs) (im:IS pZ vm (FZ n m))(hf:first<n)(hmn:∀i j,m i j=true->i<n/\j<n)(hw:AxS.Way m first first) {bD:List Int}(hfar:mP m n first 1 0 0 bD)
  (F:FT) (g0:F.get 0=a) (g3:F.get 3=vm) (g5:F.get 5=.int .i64 (first:Int)) (g7:F.get 7=.sl 0 0 n none)
  (hk:∀Y w l,l≠[]->aV aQ 9 Y w l->K w Y):R E (cutAt [1,1,1,1,1,1,1,1,1] (aA Tryz.f114).code) [] ⟨216,F⟩ [O.cells 3 (bD.map (V.int .i64)) true] (mS E (aA Tryz.f114).results K):=by
 have la:=cZ h ia
 rw[hn]at la
 have key:=λbD (hfar:mP m n first (n+1) 0 0 bD) F g0 g3 g5 g7=>P4 (K:=K) h ⟨hn,hle,hfar⟩ ia im hf (hfar.first hmn hf hw) F g0 g3 g5 g7 hk
 rw[show cutAt [1,1,1,1,1,1,1,1,1] (aA Tryz.f114).code=.seq (cutAt [1,1,1,1,1,1,1,1,1,0] (aA Tryz.f114).code) (cutAt [1,1,1,1,1,1,1,1,1,1] (aA Tryz.f114).code) from rfl]
 generalize cutAt [1,1,1,1,1,1,1,1,1,1] (aA Tryz.f114).code=C at *
 simp only[aA,Tryz.f114,KP,↓reduceIte,reduceLT,reduceNeg,cutAt]
 refine aS (λd F Y=>∃bD,Y=[O.cells 3 (bD.map (V.int .i64)) true]/\mP m n first (d+1) 0 0 bD/\F.get 0=a/\F.get 3=vm/\F.get 5=.int .i64 (first:Int)/\F.get 7=.sl 0 0 n none/\F.get 9=.int .i64 ((d+1:Nat):Int)) n ?_ ?_ n 0 _ _ (by omega) ⟨bD,rfl,hfar,(fM (by simp +decide only[GS,g0,g3,g5,g7,ag]) (by simp +decide only[GS];rfl))⟩
 ·rintro d F Y hd ⟨bD,rfl,hfar,g0,g3,g5,g7,g9⟩ next
  have hle1:decide (((d+1:Nat):Int)<=(n:Int))=true:=AT (by omega)
  have haddd:=bQ (d+1) (by omega)
  have hsub:=Eg (d+1) (by omega) (by omega)
  rw[aC]
  simp only[KP,↓reduceIte,reduceEqDiff,reduceLT,reduceCtorEq,g0,g9,la,hle1]
  refine aS (λi F Y=>∃bD,Y=[O.cells 3 (bD.map (V.int .i64)) true]/\mP m n first (d+1) i 0 bD/\F.get 0=a/\F.get 3=vm/\F.get 5=.int .i64 (first:Int)/\F.get 7=.sl 0 0 n none/\F.get 9=.int .i64 ((d+1:Nat):Int)/\F.get 10=.int .i64 (i:Int)) n ?_ ?_ n 0 _ _ (by omega) ⟨bD,rfl,hfar,(by simp +decide only[GS,g0,g3,g5,g7,g9,ag])⟩
  ·rintro i F Y hi ⟨bD,rfl,hfar,g0,g3,g5,g7,g9,g10⟩ next2
   have hlt:=dG hi
   have haddi:=bQ i (by omega)
   rw[aC]
   simp only[KP,↓reduceIte,reduceEqDiff,reduceLT,reduceCtorEq,g0,g10,la,hlt]
   refine aS (λk F Y=>∃bD,Y=[O.cells 3 (bD.map (V.int .i64)) true]/\mP m n first (d+1) i k bD/\F.get 0=a/\F.get 3=vm/\F.get 5=.int .i64 (first:Int)/\F.get 7=.sl 0 0 n none/\F.get 9=.int .i64 ((d+1:Nat):Int)/\F.get 10=.int .i64 (i:Int)/\F.get 11=.int .i64 (k:Int)) n ?_ ?_ n 0 _ _ (by omega) ⟨bD,rfl,hfar,(by simp +decide only[GS,g0,g3,g5,g7,g9,g10,ag])⟩
   ·rintro k F Y hk2 ⟨bD,rfl,hfar,g0,g3,g5,g7,g9,g10,g11⟩ next3
    have tfl:=hfar.len
    have b0:([O.cells 3 (bD.map (V.int .i64)) true]:Sg)[0]?=some (O.cells 3 (bD.map (V.int .i64)) true):=rfl
    have hlt:=dG hk2
    have haddk:=bQ k (by omega)
    obtain⟨u1,rv,u2,e1,e2⟩:=wX h im hi hk2
    have e3:=Aq h hi
    have e4:=F_ h b0 (i:=i) (by omega)
    have e5:=Aq h hk2
    have e6:=F_ h b0 (i:=k) (by omega)
    rw[aC]
    by_cases c0:eT bD i<0
    case neg=>
     have d0:decide (eT bD i<0)=false:=AS c0
     simp only[KP,↓reduceIte,reduceEqDiff,reduceLT,reduceCtorEq,g0,g7,g10,g11,la,hlt,e3,e4,d0,haddi]
     exact next2 _ _ ⟨bD,rfl,hfar.next (.inr (by omega)) hi,(by simp +decide only[GS,g0,g3,g5,g7,g9,ag])⟩
    have d0:decide (eT bD i<0)=true:=AT c0
    cases c1:m i k with
    |false=>
     simp only[KP,↓reduceIte,reduceEqDiff,reduceLT,reduceCtorEq,uH h,mU h,g0,g3,g7,g10,g11,la,hlt,e1,e2,e3,e4,d0,c1,haddk]
     exact next3 _ _ ⟨bD,rfl,hfar.skip (λe=>by rw[c1]at e;cases e.1),(by simp +decide only[GS,g0,g3,g5,g7,g9,g10,ag])⟩
    |true=>
     by_cases c2:eT bD k=(d:Int)
     ·have d2:decide (eT bD k=((d+1-1:Nat):Int))=true:=AT (by rw[c2];rfl)
      have s1:=Jh h (bD:=bD) (i:=i) (d:=((d+1:Nat):Int)) (by omega)
      simp only[KP,↓reduceIte,reduceEqDiff,reduceLT,reduceCtorEq,uH h,mU h,g0,g3,g7,g9,g10,g11,la,hlt,e1,e2,e3,e4,e5,e6,d0,c1,hsub,d2,s1,haddk]
      exact next3 _ _ ⟨_,rfl,hfar.put hi hk2 (by omega) c0 c1 (by rw[c2];omega),(by simp +decide only[GS,g0,g3,g5,g7,g9,g10,ag])⟩
     ·have d2:decide (eT bD k=((d+1-1:Nat):Int))=false:=AS (by rw[nq];exact c2)
      simp only[KP,↓reduceIte,reduceEqDiff,reduceLT,reduceCtorEq,uH h,mU h,g0,g3,g7,g9,g10,g11,la,hlt,e1,e2,e3,e4,e5,e6,d0,c1,hsub,d2,haddk]
      exact next3 _ _ ⟨bD,rfl,hfar.skip (λe=>c2 (by rw[e.2];omega)),(by simp +decide only[GS,g0,g3,g5,g7,g9,g10,ag])⟩
   ·rintro F Y ⟨bD,rfl,hfar,g0,g3,g5,g7,g9,g10,g11⟩
    have hlt:=dH (b9 n)
    rw[aC]
    simp only[KP,↓reduceIte,reduceEqDiff,reduceLT,reduceCtorEq,g0,g10,g11,la,hlt,haddi]
    exact next2 _ _ ⟨bD,rfl,hfar.next (.inl rfl) hi,(by simp +decide only[GS,g0,g3,g5,g7,g9,ag])⟩
  ·rintro F Y ⟨bD,rfl,hfar,g0,g3,g5,g7,g9,g10⟩
   have hlt:=dH (b9 n)
   rw[aC]
   simp only[KP,↓reduceIte,reduceEqDiff,reduceLT,reduceCtorEq,g0,g9,g10,la,hlt,haddd]
   exact next _ _ ⟨bD,rfl,hfar.round,(by simp +decide only[GS,g0,g3,g5,g7,ag])⟩
 ·rintro F Y ⟨bD,rfl,hfar,g0,g3,g5,g7,g9⟩
  have hle1:decide (((n+1:Nat):Int)<=(n:Int))=false:=AS (by omega)
  rw[aC]
  simp only[KP,↓reduceIte,reduceEqDiff,reduceLT,reduceCtorEq,g0,g9,la,hle1]
  refine key bD hfar _ ?_ ?_ ?_ ?_
  ·exact (by simp +decide only[GS,g0])
  ·exact (by simp +decide only[GS,g3])
  ·exact (by simp +decide only[GS,g5])
  ·exact (by simp +decide only[GS,g7])
end
end
section
section
variable {E:Env}{Z:Sg}{K:V->Sg->Prop}
theorem OG (n:Nat):fR n [V.int .i64 0]=(List.replicate n (0:Int)).map (V.int .i64):=by
 induction n with
 |zero=>rfl
 |succ n ih=>rw[fR,ih];rfl
theorem Rs {n i:Nat}(hi:i<n):(List.replicate i (-1:Int)++List.replicate (n-i) 0).set i (-1)=List.replicate (i+1) (-1)++List.replicate (n-(i+1)) 0:=by
 obtain⟨d,rfl⟩:∃d,n=i+(d+1):=⟨n-i-1,by omega⟩
 rw[lu _ _ (by simp),oz,jc,show i+(d+1)-i=d+1 by omega,List.replicate_succ,jq,show i+(d+1)-(i+1)=d by omega,List.replicate_succ']
 simp
theorem P3 (h:bK E) {a vm:V}{rs:List aD}{n:Nat}{m:Nat->Nat->Bool}(hn:rs.length=n)(hle:n<=64) (ia:IS dO a rs) (im:IS pZ vm (FZ n m))(hmn:∀i j,m i j=true->i<n/\j<n) {o:Option Nat}(ho:∀f,o=some f->f<n/\AxS.Way m f f)
  (F:FT) (g0:F.get 0=a) (g3:F.get 3=vm) (g5:F.get 5=.int .i64 (idx o))
  (hk:o≠none->∀Y w l,l≠[]->aV aQ 9 Y w l->K w Y)(hk0:o=none->K .aF []):R E (cutAt [1,1,1,1,1] (aA Tryz.f114).code) [] ⟨216,F⟩ [] (mS E (aA Tryz.f114).results K):=by
 have la:=cZ h ia
 rw[hn]at la
 cases o with
 |none=>
  simp only[aA,Tryz.f114,KP,↓reduceIte,reduceLT,Int.reduceLT,reduceNeg,cutAt,g5,nU]
  exact hk0 rfl
 |some first=>
  obtain⟨hf,hw⟩:=ho first rfl
  have key:=λbD hfar F g0 g3 g5 g7=>S0 (K:=K) h hn hle ia im hf hmn hw (bD:=bD) hfar F g0 g3 g5 g7 (hk (by simp))
  have c0:decide ((first:Int)<0)=false:=AS (by omega)
  have c2:decide ((n:Int)*((8:Nat):Int)<=1099511627776)=true:=AT (by omega)
  have c3:decide ((n:Int)<=1099511627776)=true:=AT (by omega)
  have lf:∀Z,lenOf E Z 109 (.sl 0 0 n none)=some n:=λZ=>by unfold lenOf;rw[h.NR]
  rw[show cutAt [1,1,1,1,1] (aA Tryz.f114).code=.seq (cutAt [1,1,1,1,1,0] (aA Tryz.f114).code) (.seq (cutAt [1,1,1,1,1,1,0] (aA Tryz.f114).code) (.seq (cutAt [1,1,1,1,1,1,1,0] (aA Tryz.f114).code) (.seq (cutAt [1,1,1,1,1,1,1,1,0] (aA Tryz.f114).code) (cutAt [1,1,1,1,1,1,1,1,1] (aA Tryz.f114).code)))) from rfl]
  generalize cutAt [1,1,1,1,1,1,1,1,1] (aA Tryz.f114).code=C at *
  simp only[aA,Tryz.f114,KP,↓reduceIte,reduceLT,reduceCtorEq,reduceNeg,h.nQ,h.NR,cutAt,g0,g5,dD,c0,la,c2,c3,cv,Int.le_refl,OG,lf]
  refine aS (λi F Y=>∃bD,Y=[O.cells 3 (bD.map (V.int .i64)) true]/\bD=List.replicate i (-1)++List.replicate (n-i) 0/\F.get 0=a/\F.get 3=vm/\F.get 5=.int .i64 (first:Int)/\F.get 7=.sl 0 0 n none/\F.get 60=.int .i64 (n:Int)/\F.get 61=.int .i64 (i:Int)) n ?_ ?_ n 0 _ _ (by omega) ⟨_,rfl,by simp,(by simp +decide only[GS,g0,g3,g5,dD,ag])⟩
  ·rintro i F Y hi ⟨bD,rfl,hfar,g0,g3,g5,g7,g60,g61⟩ next
   have hlt:=dG hi
   have hadd:=bQ i (by omega)
   have hfl:bD.length=n:=by rw[hfar];simp;omega
   have e1:=Aq h hi
   have s1:=Jh h (bD:=bD) (i:=i) (d:=-1) (by omega)
   rw[aC]
   simp only[KP,↓reduceIte,reduceEqDiff,reduceLT,reduceNeg,g7,g60,g61,hlt,e1,s1,hadd]
   exact next _ _ ⟨_,rfl,by rw[hfar,Rs hi],(by simp +decide only[GS,g0,g3,g5,g7,g60,ag])⟩
  ·rintro F Y ⟨bD,rfl,hfar,g0,g3,g5,g7,g60,g61⟩
   have hlt:=dH (b9 n)
   have hfar:bD=List.replicate n (-1):=by rw[hfar];simp
   have e1:=Aq h hf
   have s1:=Jh h (bD:=bD) (i:=first) (d:=0) (by rw[hfar];simpa using hf)
   rw[aC]
   simp only[KP,↓reduceIte,reduceEqDiff,reduceLT,reduceNeg,g5,g7,g60,g61,hlt,e1,s1]
   refine key (bD.set first 0) ?_ _ ?_ ?_ ?_ ?_
   ·rw[hfar];exact mP.init hf
   ·exact (by simp +decide only[GS,g0])
   ·exact (by simp +decide only[GS,g3])
   ·exact (by simp +decide only[GS,g5])
   ·exact (by simp +decide only[GS,g7])
theorem O3 {rs:List aD}{d:Bool}:∀i j,jS rs d i j=true->i<rs.length/\j<rs.length:=by
 intro i j hij
 unfold jS at hij
 split at hij
 ·rename_i r hr
  refine⟨(AI.1 hr).1,?_⟩
  unfold yP at hij
  rw[fq]at hij
  rcases hij with hij | hij
  ·obtain⟨f,_,hf⟩:=fc.1 hij
   exact CY (dx hf)
  ·rw[aj]at hij
   obtain⟨f,_,hf⟩:=fc.1 hij.2
   exact Ex (dx hf)
 ·cases hij
theorem S1 (h:bK E) {a:V}{rs:List aD}(hs:xH rs) (ia:IS dO a rs) (F:FT) (g0:F.get 0=a)
  (hk:(∃i,i<rs.length/\AxS.Way (jS rs false) i i)->∀Y w l,l≠[]->aV aQ 9 Y w l->K w Y)(hk0:(∀i,i<rs.length->¬ AxS.Way (jS rs false) i i)->K .aF []):R E (aA Tryz.f114).code [] ⟨216,F⟩ [] (mS E (aA Tryz.f114).results K):=by
 have la:=cZ h ia
 have hle:=hs.len
 have hmn:=O3 (rs:=rs) (d:=false)
 have bn:=Ti (Z:=[]) h (a:=a) (ia.ls [] 46) hs false
 generalize hm:jS rs false=m at *
 generalize hn:rs.length=n at *
 have key:=λvm (im:IS pZ vm (FZ n m)) o ho F g0 g3 g5 hk hk0=>P3 (K:=K) h hn hle ia im hmn (o:=o) ho F g0 g3 g5 hk hk0
 have d7:=h.VL
 simp only[aA,Tryz.f114,cutAt,an]at d7
 rw[show (aA Tryz.f114).code=.seq (cutAt [0] (aA Tryz.f114).code) (.seq (cutAt [1,0] (aA Tryz.f114).code) (.seq (cutAt [1,1,0] (aA Tryz.f114).code) (.seq (cutAt [1,1,1,0] (aA Tryz.f114).code) (.seq (cutAt [1,1,1,1,0] (aA Tryz.f114).code) (cutAt [1,1,1,1,1] (aA Tryz.f114).code))))) from rfl]
 generalize cutAt [1,1,1,1,1] (aA Tryz.f114).code=C at *
 simp only[aA,Tryz.f114,KP,↓reduceIte,reduceLT,reduceCtorEq,reduceNeg,cutAt,g0]
 refine aP bn ?_
 rintro vm σ' ⟨rfl,im⟩
 simp only[KP,↓reduceIte,reduceLT,reduceNeg]
 refine aP (Qw (Z:=[]) h hle im.is) ?_
 rintro vc σ' ⟨rfl,ic⟩
 have im:=im.is
 have ic:=ic.is
 simp only[KP,↓reduceIte,reduceLT,reduceNeg]
 refine aS (λi F Y=>Y=[]/\F.get 0=a/\F.get 3=vm/\F.get 4=vc/\F.get 6=.int .i64 (i:Int)/\∃o:Option Nat,F.get 5=.int .i64 (idx o)/\((o=none/\∀j,j<i->wk m n j j=false)\/∃f,o=some f/\f<n/\wk m n f f=true)) n ?_ ?_ n 0 _ _ (by omega) ⟨rfl,(fM (by simp +decide only[GS,g0,ag]) ⟨none,(by simp +decide only[GS,nU]),.inl ⟨rfl,λj hj=>by omega⟩⟩)⟩
 ·rintro i F Y hi ⟨rfl,g0,g3,g4,g6,o,g5,ho⟩ next
  have hlt:=dG hi
  have hadd:=bQ i (by omega)
  obtain⟨u1,rv,u2,e1,e2⟩:=wX h ic hi hi
  obtain⟨ri,hri⟩:∃y,rs[i]?=some y:=⟨_,BY (by omega)⟩
  obtain⟨v1,p1,p2,p3,p4,e3,-⟩:=eH h ia hri
  rw[aC]
  cases c1:wk m n i i with
  |false=>
   simp only[KP,↓reduceIte,reduceEqDiff,reduceLT,reduceCtorEq,uH h,mU h,g0,g4,g6,la,hlt,e1,e2,c1,hadd,aK d7,bB]
   refine next _ _ ⟨rfl,(fM (by simp +decide only[GS,g0,g3,g4,ag]) ⟨o,(by simp +decide only[GS,g5]),ho.imp (λ⟨h1,h2⟩=>⟨h1,λj hj=>?_⟩) id⟩)⟩
   rcases bz j i with g | g
   ·exact h2 j g
   ·obtain rfl:j=i:=by omega
    exact c1
  |true=>
   rcases ho with⟨rfl,-⟩ | ⟨f,rfl,hf,hwf⟩
   ·simp only[KP,↓reduceIte,reduceEqDiff,reduceLT,reduceCtorEq,Int.reduceLT,reduceNeg,uH h,mU h,g0,g4,g5,g6,la,hlt,e1,e2,c1,nU,hadd,aK d7,bB]
    exact next _ _ ⟨rfl,(fM (by simp +decide only[GS,g0,g3,g4,ag]) ⟨some i,(by simp +decide only[GS,dD]),.inr ⟨i,rfl,hi,c1⟩⟩)⟩
   ·have c0:decide ((f:Int)<0)=false:=AS (by omega)
    obtain⟨rf,hrf⟩:∃y,rs[f]?=some y:=⟨_,BY (by omega)⟩
    obtain⟨v2,q1,q2,q3,q4,e4,-⟩:=eH h ia hrf
    cases c3:Ax.slt ri.name rf.name with
    |true=>
     simp only[KP,↓reduceIte,reduceEqDiff,reduceLT,reduceCtorEq,uH h,sJ h,mU h,h.c_,h.bM,g0,g4,g5,g6,la,hlt,e1,e2,e3,e4,c1,c0,c3,dD,hadd,aK d7,bB]
     exact next _ _ ⟨rfl,(fM (by simp +decide only[GS,g0,g3,g4,ag]) ⟨some i,(by simp +decide only[GS,dD]),.inr ⟨i,rfl,hi,c1⟩⟩)⟩
    |false=>
     simp only[KP,↓reduceIte,reduceEqDiff,reduceLT,reduceCtorEq,uH h,sJ h,mU h,h.c_,h.bM,g0,g4,g5,g6,la,hlt,e1,e2,e3,e4,c1,c0,c3,dD,hadd,aK d7,bB]
     exact next _ _ ⟨rfl,(fM (by simp +decide only[GS,g0,g3,g4,ag]) ⟨some f,(by simp +decide only[GS,g5]),.inr ⟨f,rfl,hf,hwf⟩⟩)⟩
 ·rintro F Y ⟨rfl,g0,g3,g4,g6,o,g5,ho⟩
  have hlt:=dH (b9 n)
  rw[aC]
  simp only[KP,↓reduceIte,reduceEqDiff,reduceLT,reduceCtorEq,g0,g6,la,hlt]
  refine key vm im o (λf hf=>?_) _ ?_ ?_ ?_ (λho2=>hk ?_) (λho2=>hk0 λi hi hw=>?_)
  ·rcases ho with⟨e,-⟩ | ⟨f',e,h1,h2⟩
   ·rw[e]at hf;cases hf
   ·rw[e]at hf;cases hf;exact⟨h1,Ca h2⟩
  ·exact (by simp +decide only[GS,g0])
  ·exact (by simp +decide only[GS,g3])
  ·exact (by simp +decide only[GS,g5])
  ·rcases ho with⟨e,-⟩ | ⟨f',e,h1,h2⟩
   ·exact absurd e ho2
   ·exact⟨f',h1,Ca h2⟩
  ·rcases ho with⟨-,h1⟩ | ⟨f',e,-⟩
   ·have:=T3 hmn hw
    rw[h1 i hi]at this;cases this
   ·rw[e]at ho2;cases ho2
theorem J6 (h:bK E) {a:V}{rs:List aD}(ha:LS dO 46 Z a rs)(hs:xH rs):aB E 114 [a] Z λv σ'=>σ'=Z/\∃l,jG aQ v l/\((l≠[]/\∃i,i<rs.length/\AxS.Way (jS rs false) i i)\/(l=[]/\∀i,i<rs.length->¬ AxS.Way (jS rs false) i i)):=by
 obtain⟨a',ea,ia⟩:=eJ h ha
 rw[aI h.ZO h.Xi h.aaC h.YT (args':=[a']) (by simp only[aW,ea]),aY (by kernel_rfl)]
 refine S1 h hs ia _ (by simp +decide only[GS]) (λhc Y w l hl ow=>?_) λhc=>?_
 ·obtain⟨v',e1,hv⟩:=pD h.c_ rfl (λr x hr c hc=>by rw[show r=[.str x] from hr]at hc;cases hc with | head=>rfl | tail _ h=>cases h) ow
  show (match cG Y E.ty false w with
   |some v=>(λv σ'=>σ'=Z/\∃l,jG aQ v l/\((l≠[]/\∃i,i<rs.length/\AxS.Way (jS rs false) i i)\/(l=[]/\∀i,i<rs.length->¬ AxS.Way (jS rs false) i i))) v Z
   |none=>False)
  rw[e1]
  exact⟨rfl,l,hv,.inl ⟨hl,hc⟩⟩
 ·exact⟨rfl,[],.inl ⟨rfl,rfl⟩,.inr ⟨rfl,hc⟩⟩
end
end
section
section
variable {E:Env}{Z:Sg}{K:V->Sg->Prop}
theorem Jq {x:aD}{a b c d:V}(h1:IS aQ a x.ins)(h2:IS aQ b x.outs)(h3:IS aQ c x.after)(h4:IS fQ d x.steps):IP (.agg [.str x.name,a,b,c,d]) x:=⟨a,b,c,d,rfl,h1,h2,h3,h4⟩
theorem AA {rs:List aD}{i:Nat}{r:aD}(hr:rs[i]?=some r)(h:bE r≠0)(hp:∀(j:Nat) (s:aD),j<i->rs[j]?=some s->bE s=0):gZ rs=bE r:=by
 have:rs.find? (λr=>decide (bE r≠0))=some r:=by
  rw[List.find?_eq_some_iff_getElem]
  refine⟨AT h,i,(AI.1 hr).1,(AI.1 hr).2,λj hj=>?_⟩
  have hjl:j<rs.length:=by have:=(AI.1 hr).1;omega
  simpa using hp j _ hj (BY hjl)
 unfold gZ
 rw[this]
theorem zB {rs:List aD}(hp:∀(j:Nat) (s:aD),rs[j]?=some s->bE s=0):gZ rs=if 40<rs.length then 4 else if sY rs=true then 2 else if h_ rs=true then 2 else 0:=by
 have:rs.find? (λr=>decide (bE r≠0))=none:=by
  rw[mg]
  intro x hx
  obtain⟨j,hj,e⟩:=ez hx
  simpa using hp j x (by rw[BY hj,e])
 unfold gZ
 rw[this]
theorem V8 (h:bK E) {a:V}{rs:List aD}(hs:xH rs) (ia:IS dO a rs)(hp0:∀(j:Nat) (s:aD),rs[j]?=some s->bE s=0)(h40:¬ 40<rs.length)(hcl:sY rs=false) (F:FT) (g0:F.get 0=a)(hk:∀e nm,IV rs e->K (.gR [.int .i64 e,.str nm]) []):R E (cutAt [1,1,1,1] (aA Tryz.f60).code) [] ⟨110,F⟩ [] (mS E (aA Tryz.f60).results K):=by
 have la:=cZ h ia
 have bc:=J6 (Z:=[]) h (a:=a) (ia.ls [] 46) hs
 have hE:=zB hp0
 rw[az h40,az (by rw[hcl];simp)]at hE
 have d27:=h.VB
 simp only[aA,Tryz.f60,cutAt,an]at d27
 have d31:=h.VA
 simp only[aA,Tryz.f60,cutAt,an]at d31
 rw[show cutAt [1,1,1,1] (aA Tryz.f60).code=.seq (.seq (cutAt [1,1,1,1,0,0] (aA Tryz.f60).code) (.block 6 (.loop (cutAt [1,1,1,1,0,1,2,2] (aA Tryz.f60).code)))) (cutAt [1,1,1,1,1] (aA Tryz.f60).code) from rfl]
 have key:h_ rs=false->∀F:FT,F.get 0=a->R E (cutAt [1,1,1,1,1] (aA Tryz.f60).code) [] ⟨110,F⟩ [] (mS E (aA Tryz.f60).results K):=λhst F g0=>by
  rw[az (by rw[hst];simp)]at hE
  simp only[aA,Tryz.f60,KP,↓reduceIte,reduceLT,cutAt,g0]
  refine aP bc ?_
  rintro v σ' ⟨rfl,l,il,hl⟩
  have il:=il.is
  have ll:=bU h il
  rcases hl with⟨hl,hring⟩ | ⟨rfl,hring⟩
  ·obtain⟨y,r,rfl⟩:=nj hl
   obtain⟨g,e1⟩:=g_ h il (i:=0) (x:=y) rfl
   have e1:indexAddr E 24 v (.int .i64 0)=some (.cL g [.str y]):=e1
   have c0:decide ((0:Int)<((r.length+1:Nat):Int))=true:=AT (by omega)
   simp only[KP,↓reduceIte,reduceEqDiff,reduceLT,sJ h,ll,c0,e1,aK d31,bB]
   exact hk 3 y (.inr ⟨hE,.inl ⟨hring,rfl⟩⟩)
  ·have c0:decide ((0:Int)<((([]:List bH).length:Nat):Int))=false:=rfl
   simp only[KP,↓reduceIte,reduceEqDiff,reduceLT,Int.reduceLT,lN,ll]
   exact hk 0 [] (.inr ⟨hE,.inr ⟨λ⟨i,h1,h2⟩=>hring i h1 h2,rfl⟩⟩)
 generalize cutAt [1,1,1,1,1] (aA Tryz.f60).code=C at *
 simp only[aA,Tryz.f60,KP,↓reduceIte,reduceLT,cutAt]
 refine aS (λi F Y=>Y=[]/\F.get 0=a/\F.get 10=.int .i64 (i:Int)/\∀j s,j<i->rs[j]?=some s->∀m∈s.after,gB rs m≠none) rs.length ?_ ?_ rs.length 0 _ _ (by omega) ⟨rfl,(lV (by simp +decide only[GS,g0,ag]) (λj s hj=>by omega))⟩
 ·rintro i F Y hi ⟨rfl,g0,g10,hp⟩ next
  obtain⟨r,hr⟩:∃y,rs[i]?=some y:=⟨_,BY hi⟩
  have a3:=(hs.all r (aa hr)).after
  obtain⟨g,p1,p2,p3,p4,e1,i1,i2,i3,i4⟩:=eH h ia hr
  have l3:=bU h i3
  have hlt:=dG hi
  have hadd:=bQ i (by omega)
  rw[aC]
  simp only[KP,↓reduceIte,reduceEqDiff,reduceLT,reduceCtorEq,Lg h,h.bC,h.bM,g0,g10,la,hlt,e1,l3]
  refine aS (λj F Y=>Y=[]/\F.get 0=a/\F.get 10=.int .i64 (i:Int)/\F.get 86=p3/\F.get 87=.int .i64 (r.after.length:Int)/\F.get 88=.int .i64 (j:Int)/\∀q m,q<j->r.after[q]?=some m->gB rs m≠none) r.after.length ?_ ?_ r.after.length 0 _ _ (by omega) ⟨rfl,(iY (by simp +decide only[GS,g0,g10,ag]) (λq m hq=>by omega))⟩
  ·rintro j F Y hj ⟨rfl,g0,g10,g86,g87,g88,hq⟩ next2
   obtain⟨m,hm⟩:∃y,r.after[j]?=some y:=⟨_,BY hj⟩
   obtain⟨g,e2⟩:=g_ h i3 hm
   have hlt2:=dG hj
   have hadd2:=bQ j (by omega)
   have km:=Vm (Z:=[]) h (s:=m) (ia.ls _ 46) (by omega)
   rw[aC]
   cases hat:gB rs m with
   |none=>
    simp only[KP,↓reduceIte,reduceEqDiff,reduceLT,reduceCtorEq,Int.reduceLT,reduceNeg,sJ h,h.c_,h.bM,g0,g10,g86,g87,g88,hlt2,e1,e2,km,hat,nU,aK d27,bB]
    refine hk 2 _ (.inl ?_)
    have hst:h_ rs=true:=by
     unfold h_
     rw[fc]
     exact⟨r,aa hr,fc.2 ⟨m,aa hm,AT hat⟩⟩
    rw[bf hst]at hE
    rw[hE]
    exact⟨by decide,rfl⟩
   |some k=>
    have c0:decide ((k:Int)<0)=false:=AS (by omega)
    simp only[KP,↓reduceIte,reduceEqDiff,reduceLT,reduceCtorEq,sJ h,g0,g86,g87,g88,hlt2,e2,km,hat,dD,c0,hadd2]
    refine next2 _ _ ⟨rfl,(iY (by simp +decide only[GS,g0,g10,g86,g87,ag]) (λq m' hq2 hm'=>?_))⟩
    rcases bz q j with g | g
    ·exact hq q m' g hm'
    ·obtain rfl:q=j:=by omega
     rw[hm]at hm';cases hm';rw[hat];simp
  ·rintro F Y ⟨rfl,g0,g10,g86,g87,g88,hq⟩
   have hlt2:=dH (b9 r.after.length)
   rw[aC]
   simp only[KP,↓reduceIte,reduceEqDiff,reduceLT,g10,g87,g88,hlt2,hadd]
   refine next _ _ ⟨rfl,(lV (by simp +decide only[GS,g0,ag]) (λj s hj hs2 m hm=>?_))⟩
   rcases bz j i with g | g
   ·exact hp j s g hs2 m hm
   ·obtain rfl:j=i:=by omega
    rw[hr]at hs2;cases hs2
    obtain⟨q,hq2,e⟩:=ez hm
    exact hq q m hq2 (by rw[BY hq2,e])
 ·rintro F Y ⟨rfl,g0,g10,hp⟩
  have hlt:=dH (b9 rs.length)
  rw[aC]
  simp only[KP,↓reduceIte,reduceEqDiff,reduceLT,reduceCtorEq,g0,g10,la,hlt]
  refine key ?_ _ (by simp +decide only[GS,g0])
  unfold h_
  rw[mu]
  intro s hs2
  rw[fc]
  rintro⟨m,hm,e⟩
  obtain⟨j,hj,e2⟩:=ez hs2
  exact hp j s hj (by rw[BY hj,e2]) m hm (dx e)
theorem Nb {rs:List aD}{i:Nat}{r:aD}(hr:rs[i]?=some r):oP rs i=(decide (∃k,gB rs r.name=some k/\k<i)||r.outs.any λo=>decide (∃k,eW rs o=some k/\k<i)):=by
 have first_lt:∀(p:aD->Bool) (rs:List aD) (i:Nat),(∃k,bI p rs=some k/\k<i) ↔ ∃q∈rs.take i,p q=true:=by
  intro p rs
  induction rs with
  |nil=>intro i;simp[bI]
  |cons r rs ih=>
   intro i
   rw[bI]
   by_cases hp:p r=true
   ·rw[bf hp]
    cases i with
    |zero=>simp
    |succ i=>simp[hp]
   ·rw[az hp]
    cases i with
    |zero=>simp
    |succ i=>
     rw[o8]
     simp only[IN,Option.map_eq_some_iff]
     constructor
     ·rintro⟨k,⟨k',h1,rfl⟩,h2⟩
      obtain⟨q,hq,hpq⟩:=(ih i).1 ⟨k',h1,by omega⟩
      exact⟨q,.inr hq,hpq⟩
     ·rintro⟨q,rfl | hq,hpq⟩
      ·exact absurd hpq hp
      ·obtain⟨k,h1,h2⟩:=(ih i).2 ⟨q,hq,hpq⟩
       exact⟨k+1,⟨k,h1,rfl⟩,by omega⟩
 unfold oP gB eW
 rw[hr]
 rw[dw]
 simp only[fc,fq,OF,first_lt]
 constructor
 ·rintro⟨q,hq,h1 | ⟨o,ho,h2⟩⟩
  ·exact .inl ⟨q,hq,h1⟩
  ·exact .inr ⟨o,ho,q,hq,h2⟩
 ·rintro (⟨q,hq,h1⟩ | ⟨o,ho,q,hq,h2⟩)
  ·exact⟨q,hq,.inl h1⟩
  ·exact⟨q,hq,.inr ⟨o,ho,h2⟩⟩
theorem iE {α:Type}{p:α->Bool}{l:List α}{x:α}(hx:x∈l)(hp:p x=true):∃k,bI p l=some k:=by
 cases h:bI p l with
 |some k=>exact⟨k,rfl⟩
 |none=>
  have h2:(bI p l).isSome=true:=by rw[cI,fc];exact⟨x,hx,hp⟩
  rw[h]at h2;cases h2
theorem V9 (h:bK E) {a:V}{rs:List aD}(hs:xH rs) (ia:IS dO a rs)(hp0:∀(j:Nat) (s:aD),rs[j]?=some s->bE s=0)(h40:¬ 40<rs.length) (F:FT) (g0:F.get 0=a)(hk:∀e nm,IV rs e->K (.gR [.int .i64 e,.str nm]) []):R E (cutAt [1,1,1] (aA Tryz.f60).code) [] ⟨110,F⟩ [] (mS E (aA Tryz.f60).results K):=by
 have la:=cZ h ia
 have hE:=zB hp0
 have hmem:∀x∈rs,x.outs.length<=4294967296:=λx hx=>by have:=(hs.all x hx).outs;omega
 rw[az h40]at hE
 have d19:=h.VC
 simp only[aA,Tryz.f60,cutAt,an]at d19
 have key:=λhcl F g0=>V8 (K:=K) h hs ia hp0 h40 hcl F g0 hk
 rw[show cutAt [1,1,1] (aA Tryz.f60).code=.seq (.seq (cutAt [1,1,1,0,0] (aA Tryz.f60).code) (.block 2 (.loop (cutAt [1,1,1,0,1,2,2] (aA Tryz.f60).code)))) (cutAt [1,1,1,1] (aA Tryz.f60).code) from rfl]
 generalize cutAt [1,1,1,1] (aA Tryz.f60).code=C at *
 simp only[aA,Tryz.f60,KP,↓reduceIte,reduceLT,cutAt]
 refine aS (λi F Y=>Y=[]/\F.get 0=a/\F.get 6=.int .i64 (i:Int)/\∀j,j<i->oP rs j=false) rs.length ?_ ?_ rs.length 0 _ _ (by omega) ⟨rfl,(lV (by simp +decide only[GS,g0,ag]) (λj hj=>by omega))⟩
 ·rintro i F Y hi ⟨rfl,g0,g6,hp⟩ next
  obtain⟨r,hr⟩:∃y,rs[i]?=some y:=⟨_,BY hi⟩
  have hrm:=aa hr
  have a3:=(hs.all r hrm).outs
  obtain⟨g,p1,p2,p3,p4,e1,i1,i2,i3,i4⟩:=eH h ia hr
  have l2:=bU h i2
  have hlt:=dG hi
  have hadd:=bQ i (by omega)
  obtain⟨k1,hk1⟩:=iE (p:=λq:aD=>decide (q.name=r.name)) hrm (AT rfl)
  have hk1:gB rs r.name=some k1:=hk1
  have km:=Vm (Z:=[]) h (s:=r.name) (ia.ls _ 46) (by omega)
  have hcl:=Nb hr
  rw[show decide (∃k,gB rs r.name=some k/\k<i)=decide (k1<i) by rw[hk1];simp]at hcl
  have hb:decide ((k1:Int)<(i:Int))=decide (k1<i):=by rw[dw,OF,OF];omega
  rw[aC]
  simp only[KP,↓reduceIte,reduceEqDiff,reduceLT,reduceCtorEq,sJ h,Lg h,h.c_,h.bC,h.bM,g0,g6,la,hlt,e1,l2,km,hk1,dD,hb]
  refine aS (λj F Y=>Y=[]/\F.get 0=a/\F.get 6=.int .i64 (i:Int)/\F.get 55=p2/\F.get 56=.int .i64 (r.outs.length:Int)/\F.get 57=.int .i64 (j:Int)/\F.get 7=.bool (decide (k1<i)||(r.outs.take j).any λo=>decide (∃k,eW rs o=some k/\k<i))) r.outs.length ?_ ?_ r.outs.length 0 _ _ (by omega) ⟨rfl,(iY (by simp +decide only[GS,g0,g6,ag]) (by simp[FT.eB]))⟩
  ·rintro j F Y hj ⟨rfl,g0,g6,g55,g56,g57,g7⟩ next2
   obtain⟨m,hm⟩:∃y,r.outs[j]?=some y:=⟨_,BY hj⟩
   have hmm:=aa hm
   obtain⟨g,e2⟩:=g_ h i2 hm
   have hlt2:=dG hj
   have hadd2:=bQ j (by omega)
   obtain⟨k2,hk2⟩:=iE (p:=λq:aD=>decide (m∈q.outs)) hrm (AT hmm)
   have hk2:eW rs m=some k2:=hk2
   have kk:=Lr (Z:=[]) h (s:=m) (ia.ls _ 46) hmem (by omega)
   have hb2:decide ((k2:Int)<(i:Int))=decide (k2<i):=by rw[dw,OF,OF];omega
   have hnew:=pX (p:=λo=>decide (∃k,eW rs o=some k/\k<i)) hm
   rw[show decide (∃k,eW rs m=some k/\k<i)=decide (k2<i) by rw[hk2];simp]at hnew
   rw[aC]
   cases hbad:(decide (k1<i)||(r.outs.take j).any λo=>decide (∃k,eW rs o=some k/\k<i)) with
   |true=>
    rw[hbad]at g7
    simp only[KP,↓reduceIte,reduceEqDiff,reduceLT,sJ h,g55,g56,g57,g7,hlt2,e2,hadd2]
    refine next2 _ _ ⟨rfl,(iY (by simp +decide only[GS,g0,g6,g55,g56,ag]) ?_)⟩
    rw[hnew,<- Bool.or_assoc,hbad]
    simp only[FT.eB,reduceEqDiff,↓reduceIte,Bool.true_or]
   |false=>
    rw[hbad]at g7
    simp only[KP,↓reduceIte,reduceEqDiff,reduceLT,reduceCtorEq,sJ h,g0,g6,g55,g56,g57,g7,hlt2,e2,kk,hk2,dD,hb2,hadd2]
    refine next2 _ _ ⟨rfl,(iY (by simp +decide only[GS,g0,g6,g55,g56,ag]) ?_)⟩
    rw[hnew,<- Bool.or_assoc,hbad]
    simp only[FT.eB,reduceEqDiff,↓reduceIte,Bool.false_or]
  ·rintro F Y ⟨rfl,g0,g6,g55,g56,g57,g7⟩
   have hlt2:=dH (b9 r.outs.length)
   rw[ah (ae _),<- hcl]at g7
   rw[aC]
   cases hc:oP rs i with
   |true=>
    rw[hc]at g7
    simp only[KP,↓reduceIte,reduceEqDiff,reduceLT,reduceCtorEq,sJ h,h.c_,h.bM,g0,g6,g56,g57,g7,hlt2,e1,aK d19,bB]
    refine hk 2 _ (.inl ?_)
    have hst:sY rs=true:=by
     unfold sY
     rw[fc]
     exact⟨i,l5.2 hi,hc⟩
    rw[bf hst]at hE
    rw[hE]
    exact⟨by decide,rfl⟩
   |false=>
    rw[hc]at g7
    simp only[KP,↓reduceIte,reduceEqDiff,reduceLT,g6,g56,g57,g7,hlt2,hadd]
    refine next _ _ ⟨rfl,(lV (by simp +decide only[GS,g0,ag]) (λj hj=>?_))⟩
    rcases bz j i with g | g
    ·exact hp j g
    ·obtain rfl:j=i:=by omega
     exact hc
 ·rintro F Y ⟨rfl,g0,g6,hp⟩
  have hlt:=dH (b9 rs.length)
  rw[aC]
  simp only[KP,↓reduceIte,reduceEqDiff,reduceLT,reduceCtorEq,g0,g6,la,hlt]
  refine key ?_ _ (by simp +decide only[GS,g0])
  unfold sY
  rw[mu]
  intro i hi
  rw[hp i (l5.1 hi)];simp
theorem Ts (h:bK E) {a:V}{rs:List aD}(hs:xH rs) (ia:IS dO a rs) (F:FT) (g0:F.get 0=a)(hk:∀e nm,IV rs e->K (.gR [.int .i64 e,.str nm]) []):R E (aA Tryz.f60).code [] ⟨110,F⟩ [] (mS E (aA Tryz.f60).results K):=by
 have la:=cZ h ia
 have hle:=hs.len
 have d6:=h.aa5
 simp only[aA,Tryz.f60,cutAt,an]at d6
 have key:=λhp0 h40 F g0=>V9 (K:=K) h hs ia hp0 h40 F g0 hk
 rw[show (aA Tryz.f60).code=.seq (cutAt [0] (aA Tryz.f60).code) (.seq (cutAt [1,0] (aA Tryz.f60).code) (.seq (cutAt [1,1,0] (aA Tryz.f60).code) (cutAt [1,1,1] (aA Tryz.f60).code))) from rfl]
 generalize cutAt [1,1,1] (aA Tryz.f60).code=C at *
 simp only[aA,Tryz.f60,KP,↓reduceIte,reduceLT,lN,cutAt]
 refine aS (λi F Y=>Y=[]/\F.get 0=a/\F.get 4=.int .i64 (i:Int)/\∀(j:Nat) (s:aD),j<i->rs[j]?=some s->bE s=0) rs.length ?_ ?_ rs.length 0 _ _ (by omega) ⟨rfl,(lV (by simp +decide only[GS,g0,ag]) (λj s hj=>by omega))⟩
 ·rintro i F Y hi ⟨rfl,g0,g4,hp⟩ next
  obtain⟨r,hr⟩:∃y,rs[i]?=some y:=⟨_,BY hi⟩
  have hrs:=hs.all r (aa hr)
  obtain⟨g,p1,p2,p3,p4,e1,i1,i2,i3,i4⟩:=eH h ia hr
  have hlt:=dG hi
  have hadd:=bQ i (by omega)
  have kr:=MM (Z:=[]) h (Jq i1 i2 i3 i4) hrs
  rw[aC]
  by_cases he:bE r=0
  ·have c0:decide (bE r=0)=true:=AT he
   simp only[KP,↓reduceIte,reduceEqDiff,reduceLT,reduceCtorEq,TH h,g0,g4,la,hlt,e1,kr,c0,hadd]
   refine next _ _ ⟨rfl,(lV (by simp +decide only[GS,g0,ag]) (λj s hj hs2=>?_))⟩
   rcases bz j i with g | g
   ·exact hp j s g hs2
   ·obtain rfl:j=i:=by omega
    rw[hr]at hs2;cases hs2;exact he
  ·have c0:decide (bE r=0)=false:=AS he
   simp only[KP,↓reduceIte,reduceEqDiff,reduceLT,reduceCtorEq,sJ h,TH h,h.c_,h.bM,g0,g4,la,hlt,e1,kr,c0,aK d6,bB]
   exact hk _ _ (.inl ⟨by rw[AA hr he hp];exact he,(AA hr he hp).symm⟩)
 ·rintro F Y ⟨rfl,g0,g4,hp⟩
  have hlt:=dH (b9 rs.length)
  have hp0:∀(j:Nat) (s:aD),rs[j]?=some s->bE s=0:=λj s hs2=>hp j s (AI.1 hs2).1 hs2
  rw[aC]
  by_cases h40:40<rs.length
  ·have c0:decide ((40:Int)<(rs.length:Int))=true:=AT (by omega)
   simp only[KP,↓reduceIte,reduceEqDiff,reduceLT,reduceCtorEq,lN,g0,g4,la,hlt,c0]
   refine hk 4 _ (.inl ?_)
   rw[zB hp0,bf h40]
   exact⟨by decide,rfl⟩
  ·have c0:decide ((40:Int)<(rs.length:Int))=false:=AS (by omega)
   simp only[KP,↓reduceIte,reduceEqDiff,reduceLT,reduceCtorEq,g0,g4,la,hlt,c0]
   exact key hp0 h40 _ (by simp +decide only[GS,g0])
theorem Qg (h:bK E) {a:V}{rs:List aD}(ha:LS dO 46 Z a rs)(hs:xH rs):aB E 60 [a] Z λv σ'=>σ'=Z/\∃e nm,v=.gR [.int .i64 e,.str nm]/\IV rs e:=by
 obtain⟨a',ea,ia⟩:=eJ h ha
 rw[aI h.hs60 h.sp60 h.fn60 h.md60 (args':=[a']) (by simp only[aW,ea]),aY (by kernel_rfl)]
 exact Ts h hs ia _ (by simp +decide only[GS]) λe nm he=>⟨rfl,e,nm,rfl,he⟩
end
end
section
section
variable {E:Env}{Z:Sg}{K:V->Sg->Prop}
def gK:Lay AxS.Step:=⟨λr x=>∃a l,r=[.str x.out,.int .i64 x.op,a,l,.int .i64 x.n]/\jG aQ a x.args/\jG aQ l x.lits,5,λ_ _ ⟨_,_,h,_⟩=>by rw[h];rfl,λ_ _ ⟨a,l,h,h1,h2⟩ c hc=>by
 rw[h]at hc
 simp only[IN,ck,fh]at hc
 rcases hc with rfl | rfl | rfl | rfl | rfl
 ·rfl
 ·rfl
 ·exact h1.is.bF
 ·exact h2.is.bF
 ·rfl⟩
theorem Cm:∀r x,gK.P r x->∀c∈r,bT false c=true:=λr x ⟨a,l,h,h1,h2⟩ c hc=>by
 rw[h]at hc
 simp only[IN,ck,fh]at hc
 rcases hc with rfl | rfl | rfl | rfl | rfl
 ·rfl
 ·rfl
 ·exact h1.tag
 ·exact h2.tag
 ·rfl
theorem NV:∀r x,aQ.P r x->∀c∈r,bT false c=true:=λr x hr c hc=>by
 rw[show r=[.str x] from hr]at hc
 cases hc with
 |head=>rfl
 |tail _ h=>cases h
theorem zN (h:bK E) {v:V}{l:List bH} (iv:IS aQ v l)(hl:l.length<=8796093022208):∃w Y v',Ax.append E [] #[24,24] .aF v=some (w,Y)/\cG Y E.ty false w=some v'/\jG aQ v' l:=by
 obtain⟨rs,e,ha⟩:=nW iv []
 have hr:lG l.length 16=true:=by
  unfold lG
  rw[OF]
  exact e8 (gr 17 hl) (by decide)
 obtain⟨w,Y,h1,h2⟩:=QG (ats:=#[24,24]) h.bC rfl h.c_ rfl (by decide) (iI h) rfl e ha hr
 obtain⟨v',h3,h4⟩:=pD h.c_ rfl NV h2
 exact⟨w,Y,v',h1,h3,h4⟩
theorem jK {c:V}(h:Ax.bF c=true):c.cells=[c]:=by cases c <;> first | rfl | cases h
theorem Eo (Z:Sg):aT Z E.ty true .aF=some .aF:=rfl
theorem S6 (h:bK E) {x:aD}{a b c d:V} (ia:IS aQ a x.ins) (ib:IS aQ b x.outs) (ic:IS aQ c x.after)(hx:Mid x) {Y:Sg}{n0:Nat} (b0:Y[n0]?=some (O.cells 46 [.str x.name,a,b,c,d] true)) (F:FT) (g1:F.get 1=.ref n0 0) (g2:F.get 2=.ref (n0+1) 0) :
  ∃F' a' b' c',bW E (ev E 0) (opsOf (cutAt [1,0] (aA Tryz.f67).code)) ⟨45,F⟩ Y=some (⟨45,F'⟩,Y++[O.cells 46 [.str x.name,a',b',c',.aF] true])/\F'.get 1=.ref n0 0/\F'.get 2=.ref (n0+1) 0/\F'.get 3=.ref Y.length 0/\jG aQ a' x.ins/\jG aQ b' x.outs/\jG aQ c' x.after:=by
 have a1:=hx.ins
 have a2:=hx.outs
 have a3:=hx.after
 obtain⟨w1,τ1,a',h1,k1,i1⟩:=zN h ia (by omega)
 obtain⟨w2,τ2,b',h2,k2,i2⟩:=zN h ib (by omega)
 obtain⟨w3,τ3,c',h3,k3,i3⟩:=zN h ic (by omega)
 have s1:=λZ=>pE (E:=E) ia Z
 have s2:=λZ=>pE (E:=E) ib Z
 have s3:=λZ=>pE (E:=E) ic Z
 have v1:=cK 10 ia
 have v2:=cK 10 ib
 have v3:=cK 10 ic
 have u1:=cK 10 i1.is
 have u2:=cK 10 i2.is
 have u3:=cK 10 i3.is
 have o1:=aN i1.is.bF
 have o2:=aN i2.is.bF
 have o3:=aN i3.is.bF
 have n1:=jK i1.is.bF
 have n2:=jK i2.is.bF
 have n3:=jK i3.is.bF
 have b0':=aJ (x:=O.cells 46 [.str [],.aF,.aF,.aF,.aF] true) b0
 have vs:=xL 11 x.name
 unfold bW
 rw[h.Wh,h.X0]
 simp only[aA,Tryz.f67,KP,Ax.loadAt,Ax.storeAt,↓reduceIte,reduceEqDiff,reduceLT,reduceAdd,reduceCtorEq,h.c_,h.bC,h.gA,h.bM,opsOf,cutAt,Fz.apps,fF,bJ,bV,jF,Ax.comp,Ax.last,eL,Ax.again,uS,aW,Ax.fill,Ax.placeOf,g1,b0,b0',h1,h2,h3,k1,k2,k3,s1,s2,s3,v1,v2,v3,u1,u2,u3,o1,o2,o3,vs,n1,n2,n3,Eo,aL,cA]
 exact⟨_,a',b',c',rfl,(fJ (by simp +decide only[GS,g1,g2,ag]) ⟨i1,i2,i3⟩)⟩
def Kp (Z Y:Sg):Prop:=∀(c:Nat) (o:O),Z[c]?=some o->Y[c]?=some o
theorem S7 (h:bK E) {x:aD}{a b c d:V} (ia:IS aQ a x.ins) (ib:IS aQ b x.outs) (ic:IS aQ c x.after)(hx:Mid x) {Y:Sg}{n0:Nat} (b0:Y[n0]?=some (O.cells 46 [.str x.name,a,b,c,d] true)) (F:FT) (g1:F.get 1=.ref n0 0) (g2:F.get 2=.ref (n0+1) 0) {st:List gT}{Q:Ax.X->Fr->Sg->Prop}
  (hk:∀F' a' b' c',F'.get 1=.ref n0 0->F'.get 2=.ref (n0+1) 0->F'.get 3=.ref Y.length 0->jG aQ a' x.ins->jG aQ b' x.outs->jG aQ c' x.after->M E st .normal ⟨45,F'⟩ (Y++[O.cells 46 [.str x.name,a',b',c',.aF] true]) Q) :
  R E (.region 1 (opsOf (cutAt [1,0] (aA Tryz.f67).code)) true) st ⟨45,F⟩ Y Q:=by
 obtain⟨F',a',b',c',hE,h1,h2,h3,h4,h5,h6⟩:=S6 h ia ib ic hx b0 F g1 g2
 exact Eq.mpr (fO hE) (hk F' a' b' c' h1 h2 h3 h4 h5 h6)
end
end
section
section
variable {E:Env}{Z:Sg}{K:V->Sg->Prop}
theorem uB {α:Type}{L:Lay α}{t u k:Nat}{Y:Sg}{w:V}{l:List α}{cs:List V}{ex:Bool}(hb:Y[k]?=some (.cells u cs ex))(hu:u≠t) (ow:aV L t Y w l):aR w≠some k:=by
 rcases ow with⟨rfl,-⟩ | ⟨b,rs,ex,rfl,hc,-⟩
 ·intro e;cases e
 ·intro e;cases e;rw[hb]at hc;cases hc;exact hu rfl
theorem qZ {α:Type}{L:Lay α}{t:Nat}{Y:Sg}{w:V}{l:List α} (ow:aV L t Y w l):w.cells=[w]/\w.aZ=true:=by
 rcases ow with⟨rfl,-⟩ | ⟨b,rs,ex,rfl,-⟩ <;> exact⟨rfl,rfl⟩
theorem u_ {Y:Sg}{i:Nat}{x y:O}(h:Y[i]?=some y):(Y.set i x)[i]?=some x:=bj (AI.1 h).1
theorem qL {Y:Sg}{i j:Nat}{x y:O}(h:Y[j]?=some y)(hij:i≠j):(Y.set i x)[j]?=some y:=by rw[IT hij];exact h
theorem S5 (h:bK E) {s:AxS.Step}{p q:V} (ip:IS aQ p s.args) (iq:IS aQ q s.lits)(hp:s.args.length<=8796093022208)(hq:s.lits.length<=8796093022208) {Y:Sg} (F:FT) (g5:F.get 5=.ref Y.length 0) {st:List gT}{Q:Ax.X->Fr->Sg->Prop}
  (hk:∀F' p' q',(∀i,i<30->F'.get i=F.get i)->jG aQ p' s.args->jG aQ q' s.lits->M E st .normal ⟨45,F'⟩ (Y++[O.cells 113 [.str s.out,.int .i64 s.op,p',q',.int .i64 s.n] true]) Q):R E (.region 6 (opsOf (cutAt [1,1,0,1,2,2,1,0,2,1,0] (aA Tryz.f67).code)) true) st ⟨45,F⟩ (Y++[O.cells 113 [.str s.out,.int .i64 s.op,p,q,.int .i64 s.n] true]) Q:=by
 obtain⟨w1,τ1,p',h1,k1,i1⟩:=zN h ip (by omega)
 obtain⟨w2,τ2,q',h2,k2,i2⟩:=zN h iq (by omega)
 have s1:=λZ=>pE (E:=E) ip Z
 have s2:=λZ=>pE (E:=E) iq Z
 have o1:=aN i1.is.bF
 have o2:=aN i2.is.bF
 have n1:=jK i1.is.bF
 have n2:=jK i2.is.bF
 have key:∃F',bW E (ev E 0) (opsOf (cutAt [1,1,0,1,2,2,1,0,2,1,0] (aA Tryz.f67).code)) ⟨45,F⟩ (Y++[O.cells 113 [.str s.out,.int .i64 s.op,p,q,.int .i64 s.n] true])=some (⟨45,F'⟩,Y++[O.cells 113 [.str s.out,.int .i64 s.op,p',q',.int .i64 s.n] true])/\∀i,i<30->F'.get i=F.get i:=by
  unfold bW
  rw[h.Wg,h.XZ]
  simp only[aA,Tryz.f67,KP,Ax.loadAt,Ax.storeAt,↓reduceIte,reduceEqDiff,reduceLT,reduceLeDiff,reduceAdd,reduceCtorEq,h.bC,h.bR,opsOf,cutAt,Fz.apps,bJ,bV,jF,Ax.comp,uS,gY,aW,g5,h1,h2,k1,k2,s1,s2,o1,o2,n1,n2,Eo,aL,cA]
  refine⟨_,rfl,λi hi=>?_⟩
  simp only[FT.eB]
  repeat rw[az (by omega)]
 obtain⟨F',hE,hF⟩:=key
 exact Eq.mpr (fO hE) (hk F' p' q' hF i1 i2)
theorem QF (h:bK E) {Y:Sg}{w:V}{l:List AxS.Step}{s:AxS.Step}{p q:V} (ow:aV gK 113 Y w l) (ip:jG aQ p s.args) (iq:jG aQ q s.lits)(hb:l.length<=1000):∃w' τ',Ax.append E (Y++[O.cells 113 [.str s.out,.int .i64 s.op,p,q,.int .i64 s.n] true]) #[44,44] w (.sl Y.length 0 1 none)=some (w',τ')/\aV gK 113 τ' w' (l++[s])/\Sp (Y++[O.cells 113 [.str s.out,.int .i64 s.op,p,q,.int .i64 s.n] true]) τ' w/\Y.length<=τ'.length/\∀b,aR w'=some b->aR w=some b\/Y.length<=b:=by
 obtain⟨w',τ',h1,h2,h3,h4,h5⟩:=iR (m:=[s]) (new:=[[.str s.out,.int .i64 s.op,p,q,.int .i64 s.n]]) h.gA rfl h.bR rfl (by decide) (A1 h) rfl (ow.app [O.cells 113 [.str s.out,.int .i64 s.op,p,q,.int .i64 s.n] true]) (kL rfl) (.one ⟨p,q,rfl,ip,iq⟩) (dA (b:=1001) (by decide) (by simp only[af,b8];omega))
 refine⟨w',τ',h1,h2,h3,?_,λb e=>?_⟩
 ·simp only[ak,af,b8]at h4;omega
 ·rcases h5 b e with g | g
  ·exact .inl g
  ·simp only[ak,af,b8]at g;exact .inr (by omega)
def abx (Y:Sg) (lo:Nat) (v:V) (x:aD):Prop:=∃a b c w,v=.agg [.str x.name,a,b,c,w]/\jG aQ a x.ins/\jG aQ b x.outs/\jG aQ c x.after/\aV gK 113 Y w x.steps/\∀b,aR w=some b->lo<=b
theorem Qv (h:bK E) {v:V}{x:aD}(hv:IP v x)(hx:Mid x):aB E 67 [v] Z λv' Y=>abx Y Z.length v' x/\Kp Z Y:=by
 obtain⟨a,b,c,d,rfl,ia,ib,ic,id⟩:=hv
 have a4:=hx.steps
 have ha:=aN ia.bF
 have hb:=aN ib.bF
 have hc:=aN ic.bF
 have hd:=aN id.bF
 have ld:=lS h id
 rw[dR h.hs67 h.sp67 h.fn67 h.md67,aY (by kernel_rfl)]
 simp only[aA,Tryz.f67,KP,↓reduceIte,reduceLT,reduceAdd,h.bM,ha,hb,hc,hd]
 have hlen:(Z++[O.cells 46 [.str x.name,a,b,c,d] true]).length=Z.length+1:=by simp
 have b0:(Z++[O.cells 46 [.str x.name,a,b,c,d] true]++[O.cells 46 [.str [],.aF,.aF,.aF,.aF] true])[Z.length]?=some (O.cells 46 [.str x.name,a,b,c,d] true):=aJ aL
 have z0:(Z++[O.cells 46 [.str x.name,a,b,c,d] true]++[O.cells 46 [.str [],.aF,.aF,.aF,.aF] true])[Z.length+1]?=some (O.cells 46 [.str [],.aF,.aF,.aF,.aF] true):=by rw[<- hlen];exact aL
 have kp:Kp Z (Z++[O.cells 46 [.str x.name,a,b,c,d] true]++[O.cells 46 [.str [],.aF,.aF,.aF,.aF] true]):=λc o e=>aJ (aJ e)
 have hl2:(Z++[O.cells 46 [.str x.name,a,b,c,d] true]++[O.cells 46 [.str [],.aF,.aF,.aF,.aF] true]).length=Z.length+2:=by simp
 simp only[hlen]
 generalize Z++[O.cells 46 [.str x.name,a,b,c,d] true]++[O.cells 46 [.str [],.aF,.aF,.aF,.aF] true]=Y at *
 refine S7 h ia ib ic hx b0 _ ?_ ?_ ?_
 ·exact (by simp +decide only[GS])
 ·exact (by simp +decide only[GS])
 intro F1 a' b' c' g1 g2 g3 i1 i2 i3
 simp only[KP,↓reduceIte,reduceLT]
 have b1:=aJ (x:=O.cells 46 [.str x.name,a',b',c',.aF] true) b0
 have z1:=aJ (x:=O.cells 46 [.str x.name,a',b',c',.aF] true) z0
 have kp1:Kp Z (Y++[O.cells 46 [.str x.name,a',b',c',.aF] true]):=λc o e=>aJ (kp c o e)
 have x1:(Y++[O.cells 46 [.str x.name,a',b',c',.aF] true])[Y.length]?=some (O.cells 46 [.str x.name,a',b',c',.aF] true):=aL
 rw[hl2]at x1 g3
 generalize Y++[O.cells 46 [.str x.name,a',b',c',.aF] true]=Y at *
 refine aS (λi F Y=>Y[Z.length]?=some (O.cells 46 [.str x.name,a,b,c,d] true)/\Y[Z.length+1]?=some (O.cells 46 [.str [],.aF,.aF,.aF,.aF] true)/\Kp Z Y/\F.get 1=.ref Z.length 0/\F.get 2=.ref (Z.length+1) 0/\F.get 3=.ref (Z.length+2) 0/\F.get 4=.int .i64 (i:Int)/\∃w,Y[Z.length+2]?=some (O.cells 46 [.str x.name,a',b',c',w] true)/\aV gK 113 Y w (x.steps.take i)/\∀b,aR w=some b->Z.length<=b) x.steps.length ?_ ?_ x.steps.length 0 _ _ (by omega) ⟨b1,z1,kp1,(fM (by simp +decide only[GS,g1,g2,g3,ag]) ⟨.aF,x1,.inl ⟨rfl,rfl⟩,λb e=>by cases e⟩)⟩
 ·rintro i F Y hi ⟨b0,z0,kp,g1,g2,g3,g4,w,x0,ow,hw⟩ next
  obtain⟨s,hst⟩:∃y,x.steps[i]?=some y:=⟨_,BY hi⟩
  have hmem:=aa hst
  have a5:=hx.args s hmem
  have a6:=hx.lits s hmem
  obtain⟨g,p,q,e1,ip,iq⟩:=vJ h id hst
  have hop:=aN ip.bF
  have hoq:=aN iq.bF
  have hlt:=dG hi
  have hadd:=bQ i (by omega)
  rw[aC]
  simp only[KP,Ax.loadAt,Ax.storeAt,↓reduceIte,reduceEqDiff,reduceLT,reduceAdd,reduceCtorEq,h.gA,h.bM,h.bR,g1,g4,b0,ld,hlt,e1,hop,hoq,aL,cA]
  refine S5 h ip iq (by omega) (by omega) _ ?_ ?_
  ·exact (by simp +decide only[GS])
  intro F2 p' q' hF ip' iq'
  have k1:F2.get 1=.ref Z.length 0:=by rw[hF 1 (by omega)];exact (by simp +decide only[GS,g1])
  have k2:F2.get 2=.ref (Z.length+1) 0:=by rw[hF 2 (by omega)];exact (by simp +decide only[GS,g2])
  have k3:F2.get 3=.ref (Z.length+2) 0:=by rw[hF 3 (by omega)];exact (by simp +decide only[GS,g3])
  have k4:F2.get 4=.int .i64 (i:Int):=by rw[hF 4 (by omega)];exact (by simp +decide only[GS,g4])
  have k5:F2.get 5=.ref Y.length 0:=by rw[hF 5 (by omega)];exact (by simp +decide only[GS])
  have hop':=aN ip'.is.bF
  have hoq':=aN iq'.is.bF
  have b1:=aJ (x:=O.cells 113 [.str s.out,.int .i64 s.op,p',q',.int .i64 s.n] true) b0
  have z1:=aJ (x:=O.cells 113 [.str s.out,.int .i64 s.op,p',q',.int .i64 s.n] true) z0
  have x1:=aJ (x:=O.cells 113 [.str s.out,.int .i64 s.op,p',q',.int .i64 s.n] true) x0
  have s1:(Y++[O.cells 113 [.str s.out,.int .i64 s.op,p',q',.int .i64 s.n] true])[Y.length]?=some (O.cells 113 [.str s.out,.int .i64 s.op,p',q',.int .i64 s.n] true):=aL
  have ow1:=ow.app [O.cells 113 [.str s.out,.int .i64 s.op,p',q',.int .i64 s.n] true]
  have kp1:Kp Z (Y++[O.cells 113 [.str s.out,.int .i64 s.op,p',q',.int .i64 s.n] true]):=λc o e=>aJ (kp c o e)
  have hle:Z.length<=(Y++[O.cells 113 [.str s.out,.int .i64 s.op,p',q',.int .i64 s.n] true]).length:=by
   have:=(AI.1 b1).1;omega
  generalize Y++[O.cells 113 [.str s.out,.int .i64 s.op,p',q',.int .i64 s.n] true]=τ2 at *
  generalize Y.length=y at *
  obtain⟨w',τ3,ha3,ow3,IX,hl3,hb3⟩:=QF (s:=s) h ow1 ip' iq' (by rw[br];omega)
  have x3:=IX _ _ (aJ x1) (uB x1 (by decide) ow1)
  have b3:=IX _ _ (aJ b1) (uB b1 (by decide) ow1)
  have z3:=IX _ _ (aJ z1) (uB z1 (by decide) ow1)
  have kp3:Kp Z τ3:=λc o e=>IX _ _ (aJ (kp1 c o e)) (λe2=>by
   have:=hw c e2
   have:=(AI.1 e).1
   omega)
  obtain⟨hc1,hc2⟩:=qZ ow3
  simp only[KP,Ax.loadAt,Ax.storeAt,↓reduceIte,reduceEqDiff,reduceLT,reduceLeDiff,reduceAdd,reduceMul,reduceCtorEq,h.gA,h.bM,h.bR,k3,k4,k5,x1,x3,s1,ha3,hadd,hc1,hc2,hop',hoq',Ax.fill,fR,ir]
  refine next _ _ ⟨qL b3 (by omega),qL z3 (by omega),λc o e=>qL (kp3 c o e) (by have:=(AI.1 e).1;omega),(fM (by simp +decide only[GS,k1,k2,k3,ag]) ⟨w',u_ x3,?_,λb e=>?_⟩)⟩
  ·have e:x.steps.take (i+1)=x.steps.take i++[s]:=by rw[dn,hst];rfl
   rw[e]
   refine ow3.keep λc o hc ho=>qL ho ?_
   intro e2
   rw[<- e2]at hc
   exact uB x3 (by decide) ow3 hc
  ·rcases hb3 b e with g | g
   ·exact hw b g
   ·omega
 ·rintro F Y ⟨b0,z0,kp,g1,g2,g3,g4,w,x0,ow,hw⟩
  have hlt:=dH (b9 x.steps.length)
  obtain⟨hc1,hc2⟩:=qZ ow
  have o1:=aN i1.is.bF
  have o2:=aN i2.is.bF
  have o3:=aN i3.is.bF
  have zz:=u_ (x:=O.cells 46 [.str x.name,a',b',c',w] true) z0
  rw[ah (ae _)]at ow
  rw[aC]
  simp only[KP,Ax.loadAt,Ax.storeAt,↓reduceIte,reduceEqDiff,reduceLT,reduceAdd,reduceCtorEq,h.gA,h.bM,g1,g2,g3,g4,b0,x0,z0,zz,ld,hlt,hc2,o1,o2,o3]
  refine⟨⟨a',b',c',w,rfl,i1,i2,i3,ow.keep λc o hc ho=>qL ho ?_,hw⟩,λc o e=>qL (kp c o e) (by have:=(AI.1 e).1;omega)⟩
  intro e2
  rw[<- e2]at hc
  exact uB z0 (by decide) ow hc
end
end
section
section
variable {E:Env}{Z:Sg}{K:V->Sg->Prop}
theorem ER (n k:Nat):j_ false .i64 (n:Int) [.int .i64 (k:Int)]=some ((min n k:Nat):Int):=by
 rw[min2]
 by_cases g:(k:Int)<(n:Int)
 ·rw[bf g,Nat.min_eq_right (by omega)]
 ·rw[az g,my (by omega)]
theorem xU {α:Type} (l:List α) (k:Nat):l.take (min l.length k)=l.take k:=by
 rw[List.take_eq_take_iff];omega
theorem Dy (h:bK E) {v:V}{l:List bH} (iv:IS aQ v l) (k:Nat):∃w,(∀Z,Ax.slice E Z 24 v none (some (.int .i64 ((min l.length k:Nat):Int))) none=some w)/\IS aQ w (l.take k):=by
 obtain⟨w,h1,h2⟩:=wL h iv (b:=min l.length k) (Nat.min_le_left _ _)
 exact⟨w,h1,by rwa [xU]at h2⟩
theorem E_ (h:bK E) {v:V}{l:List bH} (iv:jG aQ v l) (k:Nat):∃w,(∀Z,Ax.slice E Z 24 v none (some (.int .i64 ((min l.length k:Nat):Int))) none=some w)/\jG aQ w (l.take k):=by
 obtain⟨w,h1,-,h2⟩:=Cv (lo:=none) (hi:=some (.int .i64 ((min l.length k:Nat):Int))) (a:=0) (b:=min l.length k) h.bC rfl h.c_ rfl iv.is (.inr rfl) (.inl ⟨rfl,rfl⟩) (ij _) (Nat.min_le_left _ _)
 refine⟨w,h1,?_⟩
 have:=h2 iv
 rw[fg,xU]at this
 exact this
theorem M6 (h:bK E) {v:V}{l:List AxS.Step} (iv:IS fQ v l) (k:Nat):∃w,(∀Z,Ax.slice E Z 44 v none (some (.int .i64 ((min l.length k:Nat):Int))) none=some w)/\IS fQ w (l.take k):=by
 obtain⟨w,h1,h2,-⟩:=Cv (lo:=none) (hi:=some (.int .i64 ((min l.length k:Nat):Int))) (a:=0) (b:=min l.length k) h.gA rfl h.bR rfl iv (.inr rfl) (.inl ⟨rfl,rfl⟩) (ij _) (Nat.min_le_left _ _)
 refine⟨w,h1,?_⟩
 rw[fg,xU]at h2
 exact h2
def rL (x:aD):aD:={ x with ins:=x.ins.take 10,outs:=x.outs.take 6,after:=x.after.take 10,steps:=x.steps.take 14 }
def BC (s:AxS.Step):AxS.Step:={ s with args:=s.args.take 8,lits:=s.lits.take 3 }
def cut (x:aD):aD:={ rL x with steps:=(x.steps.take 14).map BC }
theorem M7 (x:aD):Small (cut x):=by
 refine⟨?_,?_,?_,?_,λs hs=>?_,λs hs=>?_⟩
 ·show (x.ins.take 10).length<=10;rw[br];omega
 ·show (x.outs.take 6).length<=6;rw[br];omega
 ·show (x.after.take 10).length<=10;rw[br];omega
 ·show ((x.steps.take 14).map BC).length<=14;rw[bg,br];omega
 ·obtain⟨q,_,rfl⟩:=cm.1 hs
  show (q.args.take 8).length<=8;rw[br];omega
 ·obtain⟨q,_,rfl⟩:=cm.1 hs
  show (q.lits.take 3).length<=3;rw[br];omega
structure Raw (x:aD):Prop where
 args:∀s∈x.steps,s.args.length<=8796093022208
 lits:∀s∈x.steps,s.lits.length<=8796093022208
theorem Raw.mid {x:aD}(h:Raw x):Mid (rL x):=by
 refine⟨?_,?_,?_,?_,λs hs=>h.args s (jh hs),λs hs=>h.lits s (jh hs)⟩
 ·show (x.ins.take 10).length<=10;rw[br];omega
 ·show (x.outs.take 6).length<=6;rw[br];omega
 ·show (x.after.take 10).length<=10;rw[br];omega
 ·show (x.steps.take 14).length<=14;rw[br];omega
theorem Pn (h:bK E) {x:aD}{a b c d:V} (ia:IS aQ a x.ins) (ib:IS aQ b x.outs) (ic:IS aQ c x.after) (id:IS fQ d x.steps) (F:FT) (g1:F.get 1=.ref 0 0) (g2:F.get 2=.ref 1 0) {st:List gT}{Q:Ax.X->Fr->Sg->Prop}
  (hk:∀F' a' b' c' d',F'.get 1=.ref 0 0->F'.get 2=.ref 1 0->F'.get 3=.ref 2 0->IS aQ a' (x.ins.take 10)->IS aQ b' (x.outs.take 6)->IS aQ c' (x.after.take 10)->IS fQ d' (x.steps.take 14) ->
   M E st .normal ⟨86,F'⟩ [O.cells 46 [.str x.name,a,b,c,d] true,O.cells 46 [.str [],.aF,.aF,.aF,.aF] true,O.cells 46 [.str x.name,a',b',c',d'] true] Q) :
  R E (.region 1 (opsOf (cutAt [1,0] (aA Tryz.f111).code)) true) st ⟨86,F⟩ [O.cells 46 [.str x.name,a,b,c,d] true,O.cells 46 [.str [],.aF,.aF,.aF,.aF] true] Q:=by
 obtain⟨a',sa,ia'⟩:=Dy h ia 10
 obtain⟨b',sb,ib'⟩:=Dy h ib 6
 obtain⟨c',sc,ic'⟩:=Dy h ic 10
 obtain⟨d',sd,id'⟩:=M6 h id 14
 have la:=bU h ia
 have lb:=bU h ib
 have lc:=bU h ic
 have ld:=lS h id
 have m1:=ER x.ins.length 10
 have m2:=ER x.outs.length 6
 have m3:=ER x.after.length 10
 have m4:=ER x.steps.length 14
 have o1:=aN ia'.bF
 have o2:=aN ib'.bF
 have o3:=aN ic'.bF
 have o4:=aN id'.bF
 have n1:=jK ia'.bF
 have n2:=jK ib'.bF
 have n3:=jK ic'.bF
 have n4:=jK id'.bF
 have v1:=cK 10 ia
 have v2:=cK 10 ib
 have v3:=cK 10 ic
 have v4:=oV 9 id
 have u1:=cK 10 ia'
 have u2:=cK 10 ib'
 have u3:=cK 10 ic'
 have u4:=oV 9 id'
 have vs:=xL 11 x.name
 have vi:=λk i=>GM 11 k i
 have m1:j_ false .i64 (x.ins.length:Int) [.int .i64 10]=some ((min x.ins.length 10:Nat):Int):=m1
 have m2:j_ false .i64 (x.outs.length:Int) [.int .i64 6]=some ((min x.outs.length 6:Nat):Int):=m2
 have m3:j_ false .i64 (x.after.length:Int) [.int .i64 10]=some ((min x.after.length 10:Nat):Int):=m3
 have m4:j_ false .i64 (x.steps.length:Int) [.int .i64 14]=some ((min x.steps.length 14:Nat):Int):=m4
 have key:∃F',bW E (ev E 0) (opsOf (cutAt [1,0] (aA Tryz.f111).code)) ⟨86,F⟩ [O.cells 46 [.str x.name,a,b,c,d] true,O.cells 46 [.str [],.aF,.aF,.aF,.aF] true]=some (⟨86,F'⟩,[O.cells 46 [.str x.name,a,b,c,d] true,O.cells 46 [.str [],.aF,.aF,.aF,.aF] true,O.cells 46 [.str x.name,a',b',c',d'] true])/\F'.get 1=.ref 0 0/\F'.get 2=.ref 1 0/\F'.get 3=.ref 2 0:=by
  unfold bW
  rw[h.T1,h.UW]
  simp only[aA,Tryz.f111,KP,Ax.loadAt,Ax.storeAt,↓reduceIte,reduceEqDiff,reduceLT,reduceAdd,reduceCtorEq,h.c_,h.bC,h.gA,h.bM,opsOf,cutAt,fF,bJ,bV,jF,Ax.comp,Ax.last,eL,Ax.again,aU,Ax.fill,Ax.placeOf,g1,la,lb,lc,ld,sa,sb,sc,sd,m1,m2,m3,m4,o1,o2,o3,o4,n1,n2,n3,n4,v1,v2,v3,v4,u1,u2,u3,u4,vs,vi]
  exact⟨_,rfl,(by simp +decide only[GS,g1,g2,ag])⟩
 obtain⟨F',hE,k1,k2,k3⟩:=key
 exact Eq.mpr (fO hE) (hk F' a' b' c' d' k1 k2 k3 ia' ib' ic' id')
theorem pT {sz:Nat}:∀(rs:List (List V)),(∀r∈rs,r.length=sz)->∀(i:Nat) (r:List V),rs[i]?=some r->∀k,k<sz->rs.flatten[i*sz+k]?=r[k]?
 | [],_,i,r,e,_,_=>by cases e
 |x::rs,h,0,r,e,k,hk=>by
  cases e
  have hr:=h x (By ..)
  rw[da,ir,dj,aq (by omega)]
 |x::rs,h,i+1,r,e,k,hk=>by
  have hr:=h x (By ..)
  rw[da,bp (by rw[jj];omega),show (i+1)*sz+k-x.length=i*sz+k by rw[jj];omega]
  exact pT rs (λy hy=>h y (No _ hy)) i r e k hk
theorem Ov {sz:Nat}{rs:List (List V)}(h:∀r∈rs,r.length=sz) {i:Nat}{r:List V} (e:rs[i]?=some r) {k:Nat}(hk:k<sz) (u:V):setCells rs.flatten (i*sz+k) [u]=(rs.set i (r.set k u)).flatten:=by
 have hil:=(AI.1 e).1
 have hrl:r.length=sz:=h r (aa e)
 have hfl:rs.flatten.length=rs.length*sz:=lU rs h
 have him:(i+1)*sz<=rs.length*sz:=gr _ hil
 rw[jj]at him
 rw[<- Cw rs i (r.set k u) h (by rw[ec];exact hrl) hil]
 apply jt
 intro q
 unfold setCells
 have l1:(rs.flatten.take (i*sz+k)).length=i*sz+k:=by rw[br];omega
 have l2:(rs.flatten.take (i*sz)).length=i*sz:=by rw[br];omega
 rw[cn,cn,dz,ec,hrl]
 rcases jn q (i*sz+k) with hq | rfl | hq
 ·rw[aq (by omega),ik,bf hq]
  by_cases g:q<i*sz
  ·rw[aq (by omega),ik,bf g]
  ·rw[bp (by omega),l2,aq (by rw[ec];omega),IT (by omega)]
   obtain⟨d,rfl⟩:∃d,q=i*sz+d:=⟨q-i*sz,by omega⟩
   rw[mw]
   exact pT rs h i r e d (by omega)
 ·have e0:([u]++rs.flatten.drop (i*sz+k+1))[0]?=some u:=rfl
  rw[bp (by omega),l1,jc,e0,bp (by omega),l2,mw,aq (by rw[ec];omega),bj (by omega)]
 ·rw[bp (by omega),l1,bp (by rw[dz];omega),dz,ji,show i*sz+k+1+(q-(i*sz+k)-1)=q by omega]
  rw[bp (by omega),l2]
  by_cases g:q-i*sz<sz
  ·rw[aq (by rw[ec];omega),IT (by omega)]
   obtain⟨d,rfl⟩:∃d,q=i*sz+d:=⟨q-i*sz,by omega⟩
   rw[mw]
   exact pT rs h i r e d (by omega)
  ·rw[bp (by rw[ec];omega),ec,hrl,ji,show i*sz+sz+(q-i*sz-sz)=q by omega]
end
end
end Go.Proofs.YtmhchflckonklaaGreatDoor
end
section
namespace Go.Proofs.YtmhchflckonklaaGreatDoor
open Go Go.Ax Go.AxS Go.ChangeShapes Go.WideShapes Go.ChangeAt Go.RowKit
section
theorem zK (s:ByteArray):(Ax.bytes s).length=s.size:=by
 unfold Ax.bytes
 rw[bg]
 rfl
section
variable {W:World}{I:Bool->Nat->Prop}{blk:Nat}
theorem P_ {r:List V}{cs:List Value}:∀{off:Nat},BF W I r cs->(∀j,j<cs.length->W.cell? ⟨blk,off+j,none⟩=cs[j]?)->dU W I r blk off:=by
 induction r generalizing cs with
 |nil=>intro off h hc;exact .nil
 |cons v r ih=>
  intro off h hc
  cases h with
  |cons _ x _ xs hv hr=>
   have h0:=hc 0 (by simp)
   refine .cons v x r (by simpa using h0) hv (ih hr λj hj=>?_)
   have:=hc (j+1) (by simpa using hj)
   rw[show off+1+j=off+(j+1) by omega,this]
   rfl
theorem KU {sz off:Nat}{R:Nat->List V}{C:Nat->List Value}:∀(n k:Nat),(∀i,k<=i->i<k+n->(R i).length=sz/\(C i).length=sz/\BF W I (R i) (C i)/\∀j,j<sz->W.cell? ⟨blk,off+i*sz+j,none⟩=(C i)[j]?) ->
  eN W I sz ((List.range' k n).map R) blk (off+k*sz)
 |0,k,_=>.nil
 |n+1,k,h=>by
  rw[List.range'_succ,bl]
  obtain⟨h1,h2,h3,h4⟩:=h k (ae _) (by omega)
  refine .cons _ _ h1 (P_ h3 λj hj=>h4 j (by omega)) ?_
  have:=KU (off:=off) n (k+1) λi hi hn=>h i (by omega) (by omega)
  rw[show off+(k+1)*sz=off+k*sz+sz by rw[jj];omega]at this
  exact this
end
def Reads (W:World) (t n:Nat) (Q:List V->Prop):Prop:=∀{H:Type} (enc:TypeId × Value->H) (fuel:Nat) (cs:List Value) (d:DataW H) (p:List MemPlace),DataW.trod enc Tryz.prog W 0 (λ_=>true) true fuel t cs=some (d,p)->(DataW.weights Tryz.prog t d).all (· <= reachBytes)=true->cs.length=n/\∃r:List V,r.length=n/\Q r/\BF W (vW W).bF r cs
theorem Reads.mono {W:World}{t n:Nat}{Q Q':List V->Prop}(h:Reads W t n Q) (k:∀r,Q r->Q' r):Reads W t n Q':=λenc fuel cs d p h1 h2=>by
 obtain⟨a,r,b,c,e⟩:=h enc fuel cs d p h1 h2
 exact⟨a,r,b,k r c,e⟩
def FJ (s:bH):Prop:=s.length<=9223372036854775806
theorem Ad (W:World):Reads W 9 1 λr=>∃s,r=[.str s]/\FJ s:=λenc fuel cs d p h hw=>by
 obtain⟨s,rfl,hx,hl⟩:=DataW.trod_string Tryz.underlying9 h
 refine⟨rfl,[.str (Ax.bytes s)],rfl,⟨_,rfl,?_⟩,.cons _ _ _ _ (.str _) .nil⟩
 unfold FJ
 rw[zK]
 rw[show d=.lit (.string s.data.toList) from au Prod.fst hx,DataW.weights]at hw
 simp only[ig,js,ki,OF]at hw
 have e:reachBytes=140737488351232:=by decide
 have e1:s.size=s.data.toList.length:=rfl
 omega
theorem EC (W:World):Reads W 3 1 λr=>∃n:Int,r=[.int .i64 n]:=λenc fuel cs d p h hw=>by
 obtain⟨n,rfl,hx,-⟩:=DataW.trod_int Tryz.underlying3 h
 exact⟨rfl,[.int .i64 n],rfl,⟨n,rfl⟩,.cons _ _ _ _ (.int _ _) .nil⟩
theorem uG {H:Type}{e w:Nat}{d:DataW H}:∀{l:List (DataW H)},d∈l->w∈DataW.weights Tryz.prog e d->w∈DataW.weightsAll Tryz.prog e l
 |x::l,hd,hw=>by
  rw[DataW.weightsAll,bt]
  rcases IN.1 hd with rfl | hd
  ·exact .inl hw
  ·exact .inr (uG hd hw)
theorem uA {W:World}{α:Type} [Inhabited α] {L:Lay α}{B:α->Prop}{t e n bb:Nat}(ht:Tryz.prog.underlying t=some (.slice e)) (ce:Tryz.prog.cellsOf e=n)(hb:Tryz.prog.bytesOf e=bb)(hn:0<n)(he:Reads W e n λr=>∃x,L.P r x/\B x) :
  Reads W t 1 λr=>∃v l,r=[v]/\IS L v l/\(∀x∈l,B x)/\l.length*bb<=reachBytes:=λ{H} enc fuel cs d p h hw=>by
 rcases Go.Deep.open_slice ht h with⟨rfl,hx⟩ | ⟨a,len,cap,m,k,D,Pl,rfl,hbase,hlc,hcm,hm,hx,hel⟩
 ·exact⟨rfl,[.aF],rfl,⟨.aF,[],rfl,.inl ⟨rfl,rfl⟩,λx hx=>(by cases hx),by simp⟩,.cons _ _ _ _ .aF .nil⟩
 ·have hm:m=cap:=by rw[hm];rfl
  subst hm
  have hd:d=_:=au Prod.fst hx
  dsimp only at hd
  have hwl:len*bb<=reachBytes/\∀i,i<len->(DataW.weights Tryz.prog e (D i)).all (· <= reachBytes)=true:=by
   rw[hd]at hw
   unfold DataW.weights at hw
   rw[ht]at hw
   simp only[ig,l9,aj,er,OF,bg,l6]at hw
   refine⟨?_,λi hi=>?_⟩
   ·have h1:=hw.1
    rw[hb]at h1
    refine e8 (gr _ (by omega)) h1
   ·rw[er]
    intro w hwi
    rw[OF]
    exact hw.2.1 w (uG (cm.2 ⟨i,l5.2 hi,rfl⟩) hwi)
  by_cases hc:m=0
  ·subst hc
   obtain rfl:len=0:=by omega
   exact⟨rfl,[.bS true [] false],rfl,⟨_,[],rfl,.inr ⟨true,[],false,rfl,.nil⟩,λx hx=>(by cases hx),by simp⟩,.cons _ _ _ _ (.emp _ _ a) .nil⟩
  ·obtain⟨cs0,h0,-⟩:=hel 0 (by omega)
   obtain⟨-,hl0,hc0⟩:=World.cells?_some h0
   rw[ce]at hl0 hc0
   have hcell:=hc0 0 hn
   obtain⟨blk,off,sp⟩:=a
   have hadd:((⟨blk,off,sp⟩:Addr).add (0*n)).add 0=⟨blk,off,sp⟩:=by rw[ir];rfl
   rw[hadd]at hcell
   have hsome:∃v,W.cell? ⟨blk,off,sp⟩=some v:=⟨_,hcell.trans (BY (by omega))⟩
   obtain⟨v0,hv0⟩:=hsome
   have hsp:sp=none/\blk<W.heap.size:=by
    unfold World.cell? at hv0
    split at hv0
    ·rename_i c u f hblk
     refine⟨?_,(bq.1 hblk).1⟩
     cases sp with
     |none=>rfl
     |some q=>simp at hv0
    ·cases hv0
   obtain⟨rfl,hlt⟩:=hsp
   have each:∀i,i<len->∃q:List V × List Value × α,q.1.length=n/\q.2.1.length=n/\L.P q.1 q.2.2/\B q.2.2/\BF W (vW W).bF q.1 q.2.1/\∀j,j<n->W.cell? ⟨blk,off+i*n+j,none⟩=q.2.1[j]?:=λi hi=>by
    obtain⟨cs',h1,h2⟩:=hel i (by omega)
    obtain⟨h3,r,h4,⟨x,h5,h5'⟩,h6⟩:=he enc k cs' (D i) (Pl i) h2 (hwl.2 i hi)
    obtain⟨-,hl1,hc1⟩:=World.cells?_some h1
    rw[ce]at hc1
    refine⟨(r,cs',x),h4,h3,h5,h5',h6,λj hj=>?_⟩
    have:=hc1 j hj
    have ea:((⟨blk,off,none⟩:Addr).add (i*n)).add j=⟨blk,off+i*n+j,none⟩:=by
     rw[Go.Deep.add_add]
     unfold Addr.add
     split
     ·rename_i h0
      rw[show off+i*n+j=off by omega]
     ·rw[qa]
    rw[ea]at this
    exact this
   obtain⟨q,hq⟩:=Go.Deep.choose_lt each
   refine⟨rfl,[.bS true ((List.range' 0 len).map λi=>(q i).1) false],rfl,⟨_,(List.range' 0 len).map λi=>(q i).2.2,rfl,.inr ⟨true,_,false,rfl,?_⟩,λx hx=>?_,by simpa using hwl.1⟩,.cons _ _ _ _ (.bS true _ false blk off len m n (Q6 W blk hlt) (by simp) hlc (λh=>by cases h) ?_) .nil⟩
   ·have hall:∀(c k:Nat),(∀i,k<=i->i<k+c->L.P (q i).1 (q i).2.2)->dZ L.P ((List.range' k c).map λi=>(q i).1) ((List.range' k c).map λi=>(q i).2.2):=by
     intro c
     induction c with
     |zero=>intro k _;exact .nil
     |succ c ih=>
      intro k hk
      rw[List.range'_succ,bl,bl]
      exact .cons (hk k (ae _) (by omega)) (ih (k+1) λi h1 h2=>hk i (by omega) (by omega))
    exact hall len 0 λi _ hi=>(hq i (by omega)).2.2.1
   ·obtain⟨i,hi,rfl⟩:=cm.1 hx
    rw[List.mem_range'_1]at hi
    exact (hq i (by omega)).2.2.2.1
   ·have:=KU (W:=W) (I:=Ax.sub true (vW W).bF) (blk:=blk) (off:=off) (sz:=n) (R:=λi=>(q i).1) (C:=λi=>(q i).2.1) len 0 λi _ hi=>⟨(hq i (by omega)).1,(hq i (by omega)).2.1,(hq i (by omega)).2.2.2.2.1,(hq i (by omega)).2.2.2.2.2⟩
    rw[ir,kq]at this
    exact this
theorem sM {W:World}{I:Bool->Nat->Prop}{a:List V}{x:List Value}(h:BF W I a x) {b:List V}{y:List Value} (k:BF W I b y):BF W I (a++b) (x++y):=by
 induction a generalizing x with
 |nil=>cases h;exact k
 |cons v a ih=>cases h with | cons _ z _ zs hv hr=>exact .cons _ _ _ _ hv (ih hr)
theorem JU {β:Type}{l:List β}(h:l.length=5):∃a b c d e,l=[a,b,c,d,e]:=by
 match l,h with
 | [a,b,c,d,e],_=>exact⟨a,b,c,d,e,rfl⟩
theorem one {β:Type}{l:List β}(h:l.length=1):∃a,l=[a]:=by
 match l,h with
 | [a],_=>exact⟨a,rfl⟩
theorem CG {W:World}{t:Nat}{f0 f1 f2 f3 f4:Field}{Q0 Q1 Q2 Q3 Q4:List V->Prop}(ht:Tryz.prog.underlying t=some (.struct #[f0,f1,f2,f3,f4])) (ct:Tryz.prog.cellsOf t=5) (o0:f0.offset=0) (o1:f1.offset=1) (o2:f2.offset=2) (o3:f3.offset=3) (o4:f4.offset=4)
  (c0:Tryz.prog.cellsOf f0.type=1) (c1:Tryz.prog.cellsOf f1.type=1) (c2:Tryz.prog.cellsOf f2.type=1) (c3:Tryz.prog.cellsOf f3.type=1) (c4:Tryz.prog.cellsOf f4.type=1)
  (h0:Reads W f0.type 1 Q0)(h1:Reads W f1.type 1 Q1)(h2:Reads W f2.type 1 Q2)(h3:Reads W f3.type 1 Q3)(h4:Reads W f4.type 1 Q4) :
  Reads W t 5 λr=>∃a b c d e,r=[a,b,c,d,e]/\Q0 [a]/\Q1 [b]/\Q2 [c]/\Q3 [d]/\Q4 [e]:=λ{H} enc fuel cs d p h hw=>by
 obtain⟨xs,k,-,hx,hl,hxl,hf⟩:=DataW.trod_struct ht h
 rw[ct]at hl
 obtain⟨v0,v1,v2,v3,v4,rfl⟩:=JU hl
 have hxl:xs.length=5:=hxl
 obtain⟨y0,y1,y2,y3,y4,rfl⟩:=JU hxl
 have hd:d=_:=au Prod.fst hx
 dsimp only at hd
 rw[hd]at hw
 unfold DataW.weights at hw
 rw[ht]at hw
 simp only[bl,map_nil,DataW.weightsEach,l9,aj]at hw
 obtain⟨w0,w1,w2,w3,w4,-⟩:=hw
 have g0:=hf 0 f0 rfl
 have g1:=hf 1 f1 rfl
 have g2:=hf 2 f2 rfl
 have g3:=hf 3 f3 rfl
 have g4:=hf 4 f4 rfl
 rw[o0,c0]at g0
 rw[o1,c1]at g1
 rw[o2,c2]at g2
 rw[o3,c3]at g3
 rw[o4,c4]at g4
 obtain⟨-,r0,l0,q0,i0⟩:=h0 enc k [v0] y0.1 y0.2 g0 w0
 obtain⟨-,r1,l1,q1,i1⟩:=h1 enc k [v1] y1.1 y1.2 g1 w1
 obtain⟨-,r2,l2,q2,i2⟩:=h2 enc k [v2] y2.1 y2.2 g2 w2
 obtain⟨-,r3,l3,q3,i3⟩:=h3 enc k [v3] y3.1 y3.2 g3 w3
 obtain⟨-,r4,l4,q4,i4⟩:=h4 enc k [v4] y4.1 y4.2 g4 w4
 obtain⟨a,rfl⟩:=one l0
 obtain⟨b,rfl⟩:=one l1
 obtain⟨c,rfl⟩:=one l2
 obtain⟨d',rfl⟩:=one l3
 obtain⟨e,rfl⟩:=one l4
 exact⟨hl,[a,b,c,d',e],rfl,⟨a,b,c,d',e,rfl,q0,q1,q2,q3,q4⟩,sM i0 (sM i1 (sM i2 (sM i3 i4)))⟩
theorem pH (W:World):Reads W 24 1 λr=>∃v l,r=[v]/\IS aQ v l/\(∀x∈l,FJ x)/\l.length*16<=reachBytes:=
 uA (L:=aQ) Tryz.underlying24 (by kernel_rfl) (by kernel_rfl) (by decide) (Reads.mono (Ad W) λr ⟨s,h1,h2⟩=>⟨s,h1,h2⟩)
instance:Inhabited AxS.Step:=⟨⟨[],0,[],[],0⟩⟩
instance:Inhabited aD:=⟨⟨[],[],[],[],[]⟩⟩
def abv (s:AxS.Step):Prop:=s.args.length<=8796093022208/\s.lits.length<=8796093022208
theorem Y5 {n:Nat}(h:n*16<=reachBytes):n<=8796093022208:=by
 have e:reachBytes=140737488351232:=by decide
 omega
theorem Jr (W:World):Reads W 113 5 λr=>∃x,fQ.P r x/\abv x:=
 Reads.mono (CG Tryz.underlying113 (by kernel_rfl) rfl rfl rfl rfl rfl (by kernel_rfl) (by kernel_rfl) (by kernel_rfl) (by kernel_rfl) (by kernel_rfl) (Ad W) (EC W) (pH W) (pH W) (EC W)) λr ⟨a,b,c,d,e,hr,⟨s,h0,_⟩,⟨n,h1⟩,⟨v2,l2,h2,i2,_,b2⟩,⟨v3,l3,h3,i3,_,b3⟩,⟨m,h4⟩⟩=>by
  cases h0;cases h1;cases h2;cases h3;cases h4
  exact⟨⟨s,n,l2,l3,m⟩,⟨_,_,hr,i2,i3⟩,Y5 b2,Y5 b3⟩
theorem Js (W:World):Reads W 46 5 λr=>∃x,dO.P r x/\Raw x:=
 Reads.mono (CG Tryz.underlying46 (by kernel_rfl) rfl rfl rfl rfl rfl (by kernel_rfl) (by kernel_rfl) (by kernel_rfl) (by kernel_rfl) (by kernel_rfl) (Ad W) (pH W) (pH W) (pH W) (uA (L:=fQ) Tryz.underlying44 (by kernel_rfl) rfl (by decide) (Jr W))) λr ⟨a,b,c,d,e,hr,⟨s,h0,_⟩,⟨v1,l1,h1,i1,_⟩,⟨v2,l2,h2,i2,_⟩,⟨v3,l3,h3,i3,_⟩,⟨v4,l4,h4,i4,hB,_⟩⟩=>by
  cases h0;cases h1;cases h2;cases h3;cases h4
  exact⟨⟨s,l1,l2,l3,l4⟩,⟨_,_,_,_,hr,i1,i2,i3,i4⟩,⟨λs hs=>(hB s hs).1,λs hs=>(hB s hs).2⟩⟩
theorem Hp (W:World):Reads W 22 1 λr=>∃v l,r=[v]/\IS dO v l/\(∀x∈l,Raw x)/\l.length*Tryz.prog.bytesOf 46<=reachBytes:=
 uA (L:=dO) Tryz.underlying22 (by kernel_rfl) rfl (by decide) (Js W)
section
variable {H:Type}{enc:TypeId × Value->H}{W:World}{base:Nat}{v:Value}{d:DataW H}{p:List MemPlace}
theorem Tp {t:Nat}{Q:List V->Prop}(hr:Reads W t 1 Q)(hc:v.cells = #[v])(h:DataW.Trod enc Tryz.prog W 0 (λ_=>true) true t v d p)(hw:(DataW.weights Tryz.prog t d).all (· <= reachBytes)=true):∃a,Q [a]/\VR (vW W) a v:=by
 obtain⟨fuel,h⟩:=h
 rw[hc]at h
 obtain⟨-,r,h1,h2,h3⟩:=hr enc fuel _ d p h hw
 obtain⟨a,rfl⟩:=one h1
 cases h3 with
 |cons _ _ _ _ hv _=>exact⟨a,h2,.inl hv⟩
theorem G9 {t e:Nat}(ht:Tryz.prog.underlying t=some (.slice e))(hv:Value.okWide Tryz.prog W .any base t v):v.cells = #[v]:=by
 unfold Value.okWide at hv
 rw[ht]at hv
 have hv:Cell.okWide Tryz.prog W .any base t v:=hv
 unfold Cell.okWide Cell.ok at hv
 rw[ht]at hv
 cases v with
 |slice q len cap=>rfl
 |_=>exact hv.elim
theorem Nw (hv:Value.okWide Tryz.prog W .any base 22 v)(h:DataW.Trod enc Tryz.prog W 0 (λ_=>true) true 22 v d p)(hw:(DataW.weights Tryz.prog 22 d).all (· <= reachBytes)=true):∃a l,IS dO a l/\(∀x∈l,Raw x)/\VR (vW W) a v:=by
 obtain⟨a,⟨v',l,e,h1,h2,-⟩,h3⟩:=Tp (Hp W) (G9 Tryz.underlying22 hv) h hw
 cases e
 exact⟨a,l,h1,h2,h3⟩
end
end
end Go.Proofs.YtmhchflckonklaaGreatDoor
end
section
namespace Go.Proofs.YtmhchflckonklaaGreatDoor.Lb
open Go Go.Ax Go.AxS
section
structure cH (E:Env):Prop where
 nQ:E.ty 3=some { kd:=.int .i64,size:=1,bytes:=8,zero:=.int .i64 0 }
 tR:E.ty 4=some { kd:=.bool,size:=1,bytes:=1,zero:=.bool false }
 c_:E.ty 9=some { kd:=.str,size:=1,bytes:=16,zero:=.str [] }
 dB:E.ty 23=some { kd:=.sl 51,size:=1,bytes:=24,zero:=.aF }
 tW:E.ty 69=some { kd:=.ptr 80,size:=1,bytes:=8,zero:=.gG }
 vQ:E.ty 76=some { kd:=.map 51 4,size:=1,bytes:=8,zero:=.b_ }
 vP:E.ty 78=some { kd:=.jP [(0,76)],size:=1,bytes:=8,zero:=.agg [.b_] }
 Bp:E.ty 80=some { kd:=.jP [(0,78)],size:=1,bytes:=8,zero:=.agg [.b_] }
 cF:E.ty 51=some { kd:=.jP [(0,4),(1,9)],size:=2,bytes:=24,zero:=.agg [.bool false,.str []] }
 Ko:E.ty 135=some { kd:=.ptr 78,size:=1,bytes:=8,zero:=.gG }
 SK:E.eqs 51=some [.bool,.str]
 TK:E.hspec 107=some (lJ 51 [148] [] 109)
 hs15:E.hspec 15=none
 Rh:E.spec 15=none
 fn15:E.fn 15=some (aA Tryz.f15)
 md15:E.mode 15=.fK
 hs48:E.hspec 48=none
 sp48:E.spec 48=none
 fn48:E.fn 48=some (aA Tryz.f48)
 md48:E.mode 48=.fK
 hs47:E.hspec 47=none
 sp47:E.spec 47=none
 fn47:E.fn 47=some (aA Tryz.f47)
 md47:E.mode 47=.fK
 hs46:E.hspec 46=none
 sp46:E.spec 46=none
 fn46:E.fn 46=some (aA Tryz.f46)
 md46:E.mode 46=.shared
 Za:E.hspec 63=none
 Wx:E.spec 63=none
 Z1:E.fn 63=some (aA Tryz.f63)
 Yh:E.mode 63=.shared
 hs105:E.hspec 105=none
 sp105:E.spec 105=none
 fn105:E.fn 105=some (aA Tryz.f105)
 md105:E.mode 105=.shared
 Zb:E.hspec 54=none
 Wz:E.spec 54=none
 Z2:E.fn 54=some (aA Tryz.f54)
 Yi:E.mode 54=.shared
 hs52:E.hspec 52=none
 sp52:E.spec 52=none
 fn52:E.fn 52=some (aA Tryz.f52)
 md52:E.mode 52=.fK
 hs53:E.hspec 53=none
 sp53:E.spec 53=none
 fn53:E.fn 53=some (aA Tryz.f53)
 md53:E.mode 53=.fK
 hs131:E.hspec 131=none
 sp131:E.spec 131=none
 fn131:E.fn 131=some (aA Tryz.f131)
 md131:E.mode 131=.fK
 hs56:E.hspec 56=none
 sp56:E.spec 56=none
 fn56:E.fn 56=some (aA Tryz.f56)
 md56:E.mode 56=.fK
 hs55:E.hspec 55=none
 sp55:E.spec 55=none
 fn55:E.fn 55=some (aA Tryz.f55)
 md55:E.mode 55=.fK
 hs109:E.hspec 109=none
 sp109:E.spec 109=none
 fn109:E.fn 109=some (aA Tryz.f109)
 md109:E.mode 109=.fK
 hs149:E.hspec 149=none
 sp149:E.spec 149=none
 fn149:E.fn 149=some (aA Tryz.f149)
 md149:E.mode 149=.fK
 hs183:E.hspec 183=none
 sp183:E.spec 183=none
 fn183:E.fn 183=some (aA Tryz.f183)
 md183:E.mode 183=.fK
 TJ:E.hspec 108=none
 TA:E.spec 108=none
 TM:E.fn 108=some (aA Tryz.f108)
 TF:E.mode 108=.shared
 hs68:E.hspec 68=none
 sp68:E.spec 68=none
 fn68:E.fn 68=some (aA Tryz.f68)
 md68:E.mode 68=.fK
 hs16:E.hspec 16=none
 Rf:E.spec 16=none
 fn16:E.fn 16=some (aA Tryz.f16)
 md16:E.mode 16=.fK
 hs42:E.hspec 42=none
 sp42:E.spec 42=none
 fn42:E.fn 42=some (aA Tryz.f42)
 md42:E.mode 42=.fK
 ZS:E.hspec 104=none
 Xm:E.spec 104=none
 aaG:E.fn 104=some (aA Tryz.f104)
 YX:E.mode 104=.fK
 hs100:E.hspec 100=none
 sp100:E.spec 100=none
 fn100:E.fn 100=some (aA Tryz.f100)
 md100:E.mode 100=.fK
 hs130:E.hspec 130=none
 sp130:E.spec 130=none
 fn130:E.fn 130=some (aA Tryz.f130)
 md130:E.mode 130=.fK
 hs129:E.hspec 129=none
 sp129:E.spec 129=none
 fn129:E.fn 129=some (aA Tryz.f129)
 md129:E.mode 129=.shared
 Y_:E.hspec 97=none
 Wv:E.spec 97=none
 Z0:E.fn 97=some (aA Tryz.f97)
 Yg:E.mode 97=.fK
 aa3:aO E (cutAt [1,1,1,1,0,1,2,2,1,1,0,2,1] (aA Tryz.f63).code)=true
 aa9:aO E (cutAt [1,0] (aA Tryz.f52).code)=true
 d131_1:aO E (cutAt [1,0] (aA Tryz.f131).code)=true
 aa1:aO E (cutAt [1,1,0,2,2,0,0] (aA Tryz.f68).code)=true
 aa0:aO E (cutAt [1,1,1,0,0] (aA Tryz.f68).code)=true
 Tx:fT E (opsOf (cutAt [1,1,1,1,0] (aA Tryz.f68).code))=.lit
 TC:cJ E .lit (opsOf (cutAt [1,1,1,1,0] (aA Tryz.f68).code))=some [⟨3,4,true,false⟩,⟨3,9,true,false⟩,⟨6,9,true,false⟩]
 d16_6:aO E (cutAt [1,1,0,1,2,2,1,0,2,0] (aA Tryz.f16).code)=true
 aba:aO E (cutAt [1,0,1,2,2,1,0,2,0] (aA Tryz.f42).code)=true
def dQ (Z σ':Sg):Prop:=∀(b t:Nat) (cs:List V) (ex:Bool),Z[b]?=some (.cells t cs ex)->σ'[b]?=some (.cells t cs ex)
theorem dQ.refl (Z:Sg):dQ Z Z:=λ_ _ _ _ h=>h
theorem dQ.trans {Z Y ρ:Sg}(h:dQ Z Y) (k:dQ Y ρ):dQ Z ρ:=λb t cs ex e=>k b t cs ex (h b t cs ex e)
theorem kJ {Z:Sg}{b:Nat}{o:O}(h:Z[b]?=some o) (Y:Sg):(Z++Y)[b]?=some o:=by
 rw[aq (AI.1 h).1];exact h
theorem dQ.app (Z Y:Sg):dQ Z (Z++Y):=λ_ _ _ _ h=>kJ h Y
theorem dQ.FK {Z:Sg}{m:Nat}{es es':List (V × V)}(h:Z[m]?=some (.map es)):dQ Z (Z.set m (.map es')):=λb t cs ex e=>by
 by_cases hb:m=b
 ·subst hb;rw[h]at e;cases e
 ·rw[IT hb];exact e
def SV (Z:Sg) (v:V) (l:List aG):Prop:=
 (v=.aF/\l=[])\/(∃g full,v=.bS g (l.map row) full)\/∃b cs ex,v=.sl b 0 l.length none/\Z[b]?=some (.cells 51 cs ex)/\cs.take (l.length*2)=l.flatMap row
def LV (v:V) (l:List aG):Prop:=(v=.aF/\l=[])\/∃g full,v=.bS g (l.map row) full
theorem LV.sv {v:V}{l:List aG}(h:LV v l) (Z:Sg):SV Z v l:=h.imp id .inl
theorem SV.keep {Z σ':Sg}{v:V}{l:List aG}(h:SV Z v l) (k:dQ Z σ'):SV σ' v l:=by
 rcases h with h | h | ⟨b,cs,ex,h1,h2,h3⟩
 ·exact .inl h
 ·exact .inr (.inl h)
 ·exact .inr (.inr ⟨b,cs,ex,h1,k _ _ _ _ h2,h3⟩)
theorem kC:∀l:List aG,(l.flatMap row).length=l.length*2
 | []=>rfl
 |x::l=>by rw[jg,ak,kC l,af];show 2+_=_;omega
theorem Dl (l:List aG):(l.map row).flatten=l.flatMap row:=by rw[List.flatMap_def]
theorem Ez:∀l:List aG,rows 2 l.length (l.flatMap row)=l.map row
 | []=>rfl
 |x::l=>by
  show ((row x++l.flatMap row).take 2)::rows 2 l.length ((row x++l.flatMap row).drop 2)=_
  rw[show (row x++l.flatMap row).take 2=row x from rfl,show (row x++l.flatMap row).drop 2=l.flatMap row from rfl,Ez l]
  rfl
theorem LC:∀(l:List aG) (i:Nat) (x:aG),l[i]?=some x->((l.flatMap row).drop (i*2)).take 2=row x
 | [],i,x,h=>by simp at h
 |y::l,0,x,h=>by cases h;rfl
 |y::l,i+1,x,h=>by
  rw[show (i+1)*2=i*2+2 by omega]
  show ((row y++l.flatMap row).drop (i*2+2)).take 2=_
  rw[kj,<- List.drop_drop]
  exact LC l i x h
theorem vE {f:V->Option V}:∀l:List V,(∀x∈l,f x=some x)->aW f l=some l
 | [],_=>rfl
 |x::l,h=>by
  rw[aW,h x (By ..),vE l λy hy=>h y (No _ hy)]
theorem Mm {l:List aG}{v:V}(h:v∈l.flatMap row):(∃b,v=.bool b)\/∃s,v=.str s:=by
 rw[j6]at h
 obtain⟨x,_,hx⟩:=h
 simp only[row,IN,ck,fh]at hx
 rcases hx with rfl | rfl
 ·exact .inl ⟨_,rfl⟩
 ·exact .inr ⟨_,rfl⟩
section
variable {E:Env}{Z:Sg}{K:V->Sg->Prop}
theorem Rq (h:cH E) (g:Bool) {b:Nat}{cs:List V}{ex:Bool}{l:List aG}(hb:Z[b]?=some (.cells 51 cs ex))(hc:cs.take (l.length*2)=l.flatMap row) :
  ∃full,aT Z E.ty g (.sl b 0 l.length none)=some (.bS g (l.map row) full):=by
 have hlen:l.length*2<=cs.length:=by
  have:=au List.length hc
  rw[br,kC]at this
  omega
 have hm:aW (λv=>match bG Z E.ty g 11 v with
   |some v=>if bT g v then some v else no "snap: borrowed"
   |none=>none) (l.flatMap row)=some (l.flatMap row):=by
  refine vE _ λx hx=>?_
  rcases Mm hx with⟨b,rfl⟩ | ⟨s,rfl⟩
  ·cases g <;> rfl
  ·cases g <;> rfl
 refine⟨(match (none:Option Nat) with
  |some k=>k==l.length
  |none=>ex&&decide (0<2)&&(0+l.length*2==cs.length)),?_⟩
 have e:bG Z E.ty g 12 (.sl b 0 l.length none)=some (.bS g (l.map row) (ex&&decide (0<2)&&(0+l.length*2==cs.length))):=by
  rw[bG]
  simp only[hb,h.cF]
  rw[bf (by omega),fg,hc]
  show (match aW (λv=>match bG Z E.ty g 11 v with
   |some v=>if bT g v then some v else no "snap: borrowed"
   |none=>none) (l.flatMap row) with
   |some l'=>some (V.bS g (rows 2 l.length l') (ex&&decide (0<2)&&(0+l.length*2==cs.length)))
   |none=>none)=_
  rw[hm]
  simp only[Ez]
 show (match bG Z E.ty g 12 (.sl b 0 l.length none) with
  |some v=>if bT g v then some v else no "snap: borrowed"
  |none=>none)=_
 rw[e]
 cases g <;> rfl
theorem LM (h:cH E) {v:V}{l:List aG}(hv:(v=.aF/\l=[])\/(∃full,v=.bS false (l.map row) full)\/∃b cs ex,v=.sl b 0 l.length none/\Z[b]?=some (.cells 51 cs ex)/\cs.take (l.length*2)=l.flatMap row) :
  ∃v',cG Z E.ty false v=some v'/\((v'=.aF/\l=[])\/∃full,v'=.bS false (l.map row) full):=by
 rcases hv with⟨rfl,rfl⟩ | ⟨full,rfl⟩ | ⟨b,cs,ex,rfl,hb,hc⟩
 ·exact⟨.aF,rfl,.inl ⟨rfl,rfl⟩⟩
 ·exact⟨_,rfl,.inr ⟨full,rfl⟩⟩
 ·obtain⟨full,e⟩:=Rq h false hb hc
  exact⟨_,e,.inr ⟨full,rfl⟩⟩
theorem JI (h:cH E) {v:V}{l:List aG}(hv:SV Z v l):lenOf E Z 23 v=some l.length:=by
 unfold lenOf
 rw[h.dB]
 rcases hv with⟨rfl,rfl⟩ | ⟨g,full,rfl⟩ | ⟨b,cs,ex,rfl,hb,hc⟩
 ·rfl
 ·simp
 ·rfl
theorem BX (h:cH E) {v:V}{l:List aG}(hv:SV Z v l) {i:Nat}{x:aG}(hx:l[i]?=some x) :
  ∃a,indexAddr E 23 v (.int .i64 (i:Int))=some a/\∀σ',dQ Z σ'->loadAt E σ' 51 a=some (.agg [.bool x.1,.str x.2]):=by
 have hi:=(AI.1 hx).1
 rcases hv with⟨rfl,rfl⟩ | ⟨g,full,rfl⟩ | ⟨b,cs,ex,rfl,hb,hc⟩
 ·simp at hx
 ·have hr:(l.map row)[((i:Nat):Int).toNat]?=some (row x):=by
   rw[cv,mm,hx];rfl
  refine⟨.cL g (row x),?_,λσ' _=>?_⟩
  ·unfold indexAddr
   simp only[h.dB,h.cF,hr]
   rw[az (by omega)]
   rfl
  ·unfold loadAt
   simp only[h.cF]
   rfl
 ·refine⟨.ref b (0+i*2),?_,λσ' k=>?_⟩
  ·unfold indexAddr
   simp only[h.dB,h.cF,cv]
   rw[az (by omega),bf hi]
  ·have hlen:l.length*2<=cs.length:=by
    have:=au List.length hc
    rw[br,kC]at this
    omega
   unfold loadAt
   simp only[h.cF,k _ _ _ _ hb]
   have e:(cs.drop (0+i*2)).take 2=row x:=by
    have:=LC l i x hx
    rw[<- hc,List.drop_take,pn]at this
    rw[show min 2 (l.length*2-i*2)=2 by omega]at this
    rw[dj]
    exact this
   rw[show Ax.isAgg (Kd.jP [(0,4),(1,9)])=true from rfl]
   simp only[bh]
   rw[bf (by omega),e]
   rfl
end
end
end Go.Proofs.YtmhchflckonklaaGreatDoor.Lb
end
section
namespace Go.Proofs.YtmhchflckonklaaGreatDoor
open Go Go.Ax Go.ChangeShapes Go.WideShapes Go.ChangeAt Go.RowKit
section
section
variable {H:Type}{enc:TypeId × Value->H}{W:World}{base:Nat}{v:Value}{d:DataW H}{p:List MemPlace}
theorem Fh (hv:Value.okWide Tryz.prog W .any base 51 v)(h:DataW.Trod enc Tryz.prog W 0 (λ_=>true) true 51 v d p)(hw:(DataW.weights Tryz.prog 51 d).all (· <= reachBytes)=true) :
  ∃(x:Bool) (s:ByteArray),v=.agg #[.bool x,.string s]/\(Ax.bytes s).length<=9223372036854775806:=by
 obtain⟨cs,rfl⟩:∃cs,v=.agg cs:=by
  unfold Value.okWide at hv
  rw[Tryz.underlying51]at hv
  obtain⟨cs,h1,_⟩:=hv
  exact⟨cs,h1⟩
 obtain⟨fuel,h⟩:=h
 obtain⟨y0,y1,n,he,hl,u0,u1⟩:=trod_struct2 Tryz.underlying51 h
 have hl':cs.toList.length=2:=hl.trans (by kernel_rfl)
 obtain⟨l⟩:=cs
 match l,hl' with
 | [c0,c1],_=>
  obtain⟨x,e0,_⟩:=DataW.trod_bool Tryz.underlying4 u0
  obtain⟨s,e1,e1',_⟩:=DataW.trod_string Tryz.underlying9 u1
  have k0:Tryz.prog.cellsOf 4=1:=by kernel_rfl
  have k1:Tryz.prog.cellsOf 9=1:=by kernel_rfl
  have f0:[c0]=[Value.bool x]:=by rw[<- e0];rw[k0];rfl
  have f1:[c1]=[Value.string s]:=by rw[<- e1];rw[k1];rfl
  cases f0;cases f1
  refine⟨x,s,rfl,?_⟩
  have hd:d=.agg [y0.1,y1.1]:=au Prod.fst he
  rw[hd,e1']at hw
  unfold DataW.weights at hw
  rw[Tryz.underlying51]at hw
  simp only[bl,map_nil,DataW.weightsEach,DataW.weights,l9,aj,ig,OF]at hw
  rw[zK]
  have:s.size=s.data.toList.length:=rfl
  have e:reachBytes=140737488351232:=by decide
  omega
end
theorem GL (W:World) (x:Bool) (s:ByteArray):VR (vW W) (.agg [.bool x,.str (Ax.bytes s)]) (.agg #[.bool x,.string s]):=
 .agg _ [_,_] (.cons _ _ _ _ (.inl (.bool _)) (.cons _ _ _ _ (.inl (.str _)) .nil))
end
end Go.Proofs.YtmhchflckonklaaGreatDoor
end
section
namespace Go.Proofs.YtmhchflckonklaaGreatDoor
open Go Go.Ax
noncomputable def spL:BT (List V->Option V):=(.node 179 (.node 155 (.leaf 11 (bO t11)) (.leaf 155 pB)) (.node 263 (.leaf 179 lQ) (.node 304 (.leaf 263 kX) (.leaf 304 xV))))
noncomputable def LE:Env:=ground.env spL
end Go.Proofs.YtmhchflckonklaaGreatDoor
end
section
namespace Go.Proofs.YtmhchflckonklaaGreatDoor
open Go Go.Ax Go.ChangeShapes Go.WideShapes Go.ChangeAt Go.RowKit
theorem Ud:spL.zR (gO Tryz.prog (ground.env .nil)):=⟨⟨XA,Ol⟩,⟨Oj,⟨Oi,Oh⟩⟩⟩
theorem Qz {G:Ax.Ground Tryz.prog}(hG:mO G)(hgl:G.gl=E2) {s:BT (List V->Option V)}(hs:s.zR (gO Tryz.prog (G.env .nil))) {n f:Nat}{vs:List V}{W:World}(hW:W.ShapedOpen Tryz.prog)(h:Ax.call (G.env s) n f vs=some (.bool true)) {xs:List Value}(hv:fU (vW W) vs xs) :
  Calls Tryz.prog f xs.toArray W λe W'=>e=.returned (.bool true)/\Below W.heap.size W W':=by
 refine (DE (hG.PY s) (hG.PU hs) mixed h (d:=vW W) rfl (T_ hW hgl) hv).mono ?_
 rintro e w' ⟨x,d',rfl,rfl,h1,h2,h3,h4⟩
 have hx:=h4.iZ
 subst hx
 exact⟨rfl,h2.os,h2.tape,h2.output,h2.size,λk hk=>(h2.keep k hk λ⟨b,⟨o,ho,_⟩,_⟩=>by cases ho).1⟩
end Go.Proofs.YtmhchflckonklaaGreatDoor
end
section
namespace Go.Proofs.YtmhchflckonklaaGreatDoor
open Go Go.Ax Go.AxS
section
section
variable {E:Env}{Z:Sg}{K:V->Sg->Prop}
theorem I_ (m b o n:Nat):pA (m+1) (.sl b o n none) (.sl b o n none)=true:=by
 show (decide (b=b)&&decide (o=o)&&decide (n=n))=true
 simp
theorem Kr (h:bK E) {Y:Sg}{b:Nat}{ex:Bool}{rs:List (List V)}(hl:∀r∈rs,r.length=5)(hb:Y[b]?=some (.cells 113 rs.flatten ex)) {i:Nat}{r:List V}(hr:rs[i]?=some r) {k:Nat}(hk:k<5) {u:V}(hu:Ax.bF u=true) :
  storeAt E Y 24 (.ref b (i*5+k)) u=some (Y.set b (.cells 113 (rs.set i (r.set k u)).flatten ex)):=by
 have hil:=(AI.1 hr).1
 have hfl:rs.flatten.length=rs.length*5:=lU rs hl
 unfold storeAt
 simp only[h.bC,hb]
 rw[jK hu,bf (by simp only[af,b8,ig,js,aN hu,ki,aj,OF];exact⟨rfl,by omega⟩),Ov hl hr hk]
theorem Li (h:bK E) {Y:Sg}{b:Nat}{ex:Bool}{rs:List (List V)}(hl:∀r∈rs,r.length=5)(hb:Y[b]?=some (.cells 113 rs.flatten ex)) {i:Nat}{r:List V}(hr:rs[i]?=some r) {k:Nat}(hk:k<5) {u:V}(hu:r[k]?=some u):loadAt E Y 24 (.ref b (i*5+k))=some u:=by
 unfold loadAt
 simp only[h.bC,hb,Ax.isAgg,ai,ay]
 rw[pT rs hl i r hr k hk,hu]
theorem Pk (h:bK E) {l:List AxS.Step}{s:AxS.Step}{nm:bH}{a' b' c' w:V}{Y:Sg}{i:Nat}(hi:l[i]?=some s) (x0:Y[2]?=some (O.cells 46 [.str nm,a',b',c',w] true)) (ow:aV gK 113 Y w l) (F:FT) (g1:F.get 2=.ref 1 0) (g3:F.get 3=.ref 2 0) (g4:F.get 4=.int .i64 (i:Int)) {st:List gT}{Q:Ax.X->Fr->Sg->Prop}
  (hk:∀F' τ',(∀k,k<44->F'.get k=F.get k)->aV gK 113 τ' w (l.set i (BC s))->Sp Y τ' w->M E st .normal ⟨86,F'⟩ τ' Q):R E (.region 6 (opsOf (cutAt [1,1,1,0,1,2,2,1,1,0,2,1] (aA Tryz.f111).code)) true) st ⟨86,F⟩ Y Q:=by
 have hil:=(AI.1 hi).1
 rcases ow with⟨rfl,rfl⟩ | ⟨b,rs,ex,rfl,hb,ha⟩
 ·cases hi
 obtain⟨r,hr,hP⟩:=ha.get i s hi
 obtain⟨p,q,rfl,ip,iq⟩:=hP
 have hls:=Lay.lens ha
 have hls:∀r∈rs,r.length=5:=hls
 obtain⟨p1,e1,ip1⟩:=E_ h ip 8
 obtain⟨q1,e2,iq1⟩:=E_ h iq 3
 have lp:=bU h ip.is
 have lq:=bU h iq.is
 have m1:=ER s.args.length 8
 have m2:=ER s.lits.length 3
 have m1:j_ false .i64 (s.args.length:Int) [.int .i64 8]=some ((min s.args.length 8:Nat):Int):=m1
 have m2:j_ false .i64 (s.lits.length:Int) [.int .i64 3]=some ((min s.lits.length 3:Nat):Int):=m2
 have ix:indexAddr E 44 (.sl b 0 l.length none) (.int .i64 (i:Int))=some (.ref b (i*5)):=by
  have hneg:¬ ((i:Int)<0):=by omega
  unfold indexAddr
  simp only[hneg,ay,h.gA,h.bR,cv,hil,bh,dj]
 have d1:=Li h hls hb hr (k:=2) (by omega) (u:=p) rfl
 have d2:=Li h hls hb hr (k:=3) (by omega) (u:=q) rfl
 have s1:=Kr h hls hb hr (k:=2) (by omega) (u:=p1) ip1.is.bF
 have hbl:=(AI.1 hb).1
 have hrl:=(AI.1 hr).1
 have hr1:(rs.set i [.str s.out,.int .i64 s.op,p1,q,.int .i64 s.n])[i]?=some [.str s.out,.int .i64 s.op,p1,q,.int .i64 s.n]:=bj hrl
 have ha1:dZ gK.P (rs.set i [.str s.out,.int .i64 s.op,p1,q,.int .i64 s.n]) (l.set i { s with args:=s.args.take 8 }):=ha.set (y:={ s with args:=s.args.take 8 }) ⟨p1,q,rfl,ip1,iq⟩ i
 have hls1:∀r∈rs.set i [.str s.out,.int .i64 s.op,p1,q,.int .i64 s.n],r.length=5:=Lay.lens ha1
 have s1:storeAt E Y 24 (.ref b (i*5+2)) p1=some (Y.set b (.cells 113 (rs.set i [.str s.out,.int .i64 s.op,p1,q,.int .i64 s.n]).flatten ex)):=s1
 have hb1:(Y.set b (.cells 113 (rs.set i [.str s.out,.int .i64 s.op,p1,q,.int .i64 s.n]).flatten ex))[b]?=some (.cells 113 (rs.set i [.str s.out,.int .i64 s.op,p1,q,.int .i64 s.n]).flatten ex):=u_ hb
 have s2:=Kr h hls1 hb1 hr1 (k:=3) (by omega) (u:=q1) iq1.is.bF
 have hb2:b≠2:=λe=>by subst e;rw[hb]at x0;cases x0
 have x1:(Y.set b (.cells 113 (rs.set i [.str s.out,.int .i64 s.op,p1,q,.int .i64 s.n]).flatten ex))[2]?=some (O.cells 46 [.str nm,a',b',c',.sl b 0 l.length none] true):=qL x0 hb2
 have ldx:∀Y:Sg,Y[2]?=some (O.cells 46 [.str nm,a',b',c',.sl b 0 l.length none] true)->loadAt E Y 44 (.ref 2 4)=some (.sl b 0 l.length none):=λY hx=>by
  unfold loadAt
  simp only[h.gA,hx,Ax.isAgg,ai,ay]
  rfl
 have w0:=ldx _ x0
 have w1:=ldx _ x1
 have v1:=I_ 11 b 0 l.length
 have v2:=λk i=>GM 11 k i
 have v3:=cK 10 iq1.is
 generalize hτ1:Y.set b (.cells 113 (rs.set i [.str s.out,.int .i64 s.op,p1,q,.int .i64 s.n]).flatten ex)=τ1 at *
 have key:∃F',bW E (ev E 0) (opsOf (cutAt [1,1,1,0,1,2,2,1,1,0,2,1] (aA Tryz.f111).code)) ⟨86,F⟩ Y=some (⟨86,F'⟩,τ1.set b (.cells 113 ((rs.set i [.str s.out,.int .i64 s.op,p1,q,.int .i64 s.n]).set i ([V.str s.out,.int .i64 s.op,p1,q,.int .i64 s.n].set 3 q1)).flatten ex))/\∀k,k<44->F'.get k=F.get k:=by
  unfold bW
  rw[h.T0,h.UU]
  simp only[aA,Tryz.f111,KP,↓reduceIte,reduceEqDiff,reduceLT,reduceAdd,reduceCtorEq,h.bC,h.gA,h.bM,h.bR,opsOf,cutAt,fF,bJ,bV,jF,Ax.comp,Ax.last,eL,Ax.again,aU,g3,g4,w0,w1,ix,d1,d2,lp,lq,m1,m2,e1,e2,s1,s2,v1,v2,v3]
  refine⟨_,rfl,λk hk=>?_⟩
  simp only[FT.eB]
  repeat rw[az (by omega)]
 obtain⟨F',hE,hF⟩:=key
 refine Eq.mpr (fO hE) (hk F' _ hF ?_ ?_)
 ·have hn:(l.set i (BC s)).length=l.length:=ec
  refine .inr ⟨b,_,ex,by rw[hn],u_ hb1,?_⟩
  rw[List.set_set]
  exact ha.set (y:=BC s) ⟨p1,q1,rfl,ip1,iq1⟩ i
 ·intro c o e hne
  have hcb:b≠c:=λe2=>hne (by rw[e2];rfl)
  rw[<- hτ1,List.set_set,IT hcb];exact e
theorem F0 {l:List AxS.Step}{i:Nat}{s:AxS.Step}(hi:l[i]?=some s):((l.take i).map BC++l.drop i).set i (BC s)=(l.take (i+1)).map BC++l.drop (i+1):=by
 have hil:=(AI.1 hi).1
 have h1:((l.take i).map BC).length=i:=by rw[bg,br];omega
 rw[lu _ _ (by omega),h1,jc,List.drop_eq_getElem_cons hil,jq,dn,hi]
 simp
theorem Nq (h:bK E) {v:V}{x:aD}(hv:IP v x)(hx:Raw x):aB E 111 [v] Z λv' σ'=>σ'=Z/\∃a b c d,v'=.agg [.str x.name,a,b,c,d]/\jG aQ a (cut x).ins/\jG aQ b (cut x).outs/\jG aQ c (cut x).after/\jG gK d (cut x).steps:=by
 have ev:=hv.snap (E:=E) Z
 obtain⟨a,b,c,d,rfl,ia,ib,ic,id⟩:=hv
 rw[aI h.ZR h.Xl h.aaF h.YW (args':=[.agg [.str x.name,a,b,c,d]]) (by simp only[aW,ev]),aY (by kernel_rfl)]
 have ha:=aN ia.bF
 have hb:=aN ib.bF
 have hc:=aN ic.bF
 have hd:=aN id.bF
 simp only[aA,Tryz.f111,KP,↓reduceIte,reduceLT,reduceAdd,h.bM,ha,hb,hc,hd]
 refine Pn h ia ib ic id _ ?_ ?_ ?_
 ·exact (by simp +decide only[GS])
 ·exact (by simp +decide only[GS])
 intro F1 a1 b1 c1 d1 g1 g2 g3 i1 i2 i3 i4
 simp only[KP,Ax.loadAt,↓reduceIte,reduceLT,reduceAdd,h.bM,g3]
 refine aP (Qv h (x:=rL x) ⟨a1,b1,c1,d1,rfl,i1,i2,i3,i4⟩ hx.mid) ?_
 rintro v1 Y ⟨⟨a2,b2,c2,w,rfl,j1,j2,j3,ow,hw⟩,kp⟩
 have o1:=aN j1.is.bF
 have o2:=aN j2.is.bF
 have o3:=aN j3.is.bF
 obtain⟨hc1,hc2⟩:=qZ ow
 have z0:Y[1]?=some (O.cells 46 [.str [],.aF,.aF,.aF,.aF] true):=kp 1 _ rfl
 have x0:=kp 2 _ (show ([O.cells 46 [.str x.name,a,b,c,d] true,O.cells 46 [.str [],.aF,.aF,.aF,.aF] true,O.cells 46 [.str x.name,a1,b1,c1,d1] true]:Sg)[2]?=_ from rfl)
 have hw3:∀k,aR w=some k->3<=k:=hw
 have x1:=u_ (x:=O.cells 46 [.str x.name,a2,b2,c2,w] true) x0
 have z1:=qL (x:=O.cells 46 [.str x.name,a2,b2,c2,w] true) z0 (show (2:Nat)≠1 by omega)
 have ow1:aV gK 113 (Y.set 2 (O.cells 46 [.str x.name,a2,b2,c2,w] true)) w (rL x).steps:=ow.keep λk o hk ho=>qL ho (λe=>by have:=hw3 k hk;omega)
 have nm0:(rL x).name=x.name:=rfl
 have lw:∀l:List AxS.Step,l.length=(rL x).steps.length->∀Z,aV gK 113 Z w l->lenOf E Z 44 w=some (rL x).steps.length:=λl hl Z o=>by rw[<- hl];exact mZ h.gA rfl o.ls
 have lw1:=lw _ rfl _ ow1
 simp only[KP,Ax.loadAt,Ax.storeAt,↓reduceIte,reduceEqDiff,reduceLT,reduceAdd,reduceCtorEq,h.gA,h.bM,g3,nm0,x0,x1,lw1,o1,o2,o3,hc2]
 generalize Y.set 2 (O.cells 46 [.str x.name,a2,b2,c2,w] true)=Y at *
 refine aS (λi F Y=>Y[1]?=some (O.cells 46 [.str [],.aF,.aF,.aF,.aF] true)/\Y[2]?=some (O.cells 46 [.str x.name,a2,b2,c2,w] true)/\aV gK 113 Y w (((rL x).steps.take i).map BC++(rL x).steps.drop i)/\F.get 2=.ref 1 0/\F.get 3=.ref 2 0/\F.get 40=.int .i64 ((rL x).steps.length:Int)/\F.get 41=.int .i64 (i:Int)) (rL x).steps.length ?_ ?_ (rL x).steps.length 0 _ _ (by omega) ⟨z1,x1,by simpa using ow1,(by simp +decide only[GS,g2,g3,ag])⟩
 ·rintro i F Y hi ⟨z0,x0,ow,g2,g3,g40,g41⟩ next
  obtain⟨s,hst⟩:∃y,(rL x).steps[i]?=some y:=⟨_,BY hi⟩
  have hlt:=dG hi
  have hsz:(rL x).steps.length<=14:=by show (x.steps.take 14).length<=14;rw[br];omega
  have hadd:=bQ i (by omega)
  have hli:(((rL x).steps.take i).map BC++(rL x).steps.drop i)[i]?=some s:=by
   rw[bp (by rw[bg,br];omega),bg,br,show i-min i (rL x).steps.length=0 by omega,ji,kq,hst]
  rw[aC]
  simp only[KP,↓reduceIte,reduceEqDiff,reduceLT,g40,g41,hlt]
  refine Pk h hli x0 ow _ ?_ ?_ ?_ ?_
  ·exact (by simp +decide only[GS,g2])
  ·exact (by simp +decide only[GS,g3])
  ·exact (by simp +decide only[GS])
  intro F2 τ2 hF ow2 sp
  have k2:F2.get 2=.ref 1 0:=by rw[hF 2 (by omega)];exact (by simp +decide only[GS,g2])
  have k3:F2.get 3=.ref 2 0:=by rw[hF 3 (by omega)];exact (by simp +decide only[GS,g3])
  have k40:F2.get 40=.int .i64 ((rL x).steps.length:Int):=by rw[hF 40 (by omega)];exact (by simp +decide only[GS,g40])
  have k41:F2.get 41=.int .i64 (i:Int):=by rw[hF 41 (by omega)];exact (by simp +decide only[GS,g41])
  simp only[KP,↓reduceIte,reduceLT,k41,hadd]
  rw[F0 hst]at ow2
  exact next _ _ ⟨sp _ _ z0 (uB z0 (by decide) ow),sp _ _ x0 (uB x0 (by decide) ow),ow2,(by simp +decide only[GS,k2,k3,k40,ag])⟩
 ·rintro F Y ⟨z0,x0,ow,g2,g3,g40,g41⟩
  have hlt:=dH (b9 (rL x).steps.length)
  rw[ah (ae _),jk (ae _),gz]at ow
  have hne:=uB z0 (show 46≠113 by decide) ow
  have zz:=u_ (x:=O.cells 46 [.str x.name,a2,b2,c2,w] true) z0
  have ow3:aV gK 113 (Y.set 1 (O.cells 46 [.str x.name,a2,b2,c2,w] true)) w ((rL x).steps.map BC):=ow.keep λk o hk ho=>qL ho (λe=>by rw[<- e]at hk;exact hne hk)
  rw[aC]
  simp only[KP,Ax.loadAt,Ax.storeAt,↓reduceIte,reduceEqDiff,reduceLT,reduceAdd,h.bM,g2,g3,g40,g41,hlt,x0,z0,zz,o1,o2,o3,hc2]
  generalize Y.set 1 (O.cells 46 [.str x.name,a2,b2,c2,w] true)=Y at *
  obtain⟨d',e1,id'⟩:=pD h.bR rfl Cm ow3
  have one:∀{u:V},Ax.bF u=true->bT false u=true->aT.one Y E.ty false u=some u:=λ{u} h1 h2=>by
   have h3:=cN (Z:=Y) (ty:=E.ty) (g:=false) h1 h2
   cases u <;> first | exact h3 | cases h1
  have oned:aT.one Y E.ty false w=some d':=by
   rcases ow3 with⟨rfl,-⟩ | ⟨b,rs,ex,rfl,-⟩
   ·exact e1
   ·exact e1
  have hsn:cG Y E.ty false (.agg [.str x.name,a2,b2,c2,w])=some (.agg [.str x.name,a2,b2,c2,d']):=by
   show (match aW (aT.one Y E.ty false) [.str x.name,a2,b2,c2,w] with
    |some l=>some (V.agg l)
    |none=>none)=_
   simp only[aW,one (u:=.str x.name) rfl rfl,one j1.is.bF j1.tag,one j2.is.bF j2.tag,one j3.is.bF j3.tag,oned]
  rw[hsn]
  exact⟨a2,b2,c2,d',rfl,j1,j2,j3,id'⟩
end
end
section
section
variable {E:Env}{Z:Sg}{K:V->Sg->Prop}
def lF:Lay aD:=⟨λr x=>∃a b c d,r=[.str x.name,a,b,c,d]/\jG aQ a x.ins/\jG aQ b x.outs/\jG aQ c x.after/\jG gK d x.steps,5,λ_ _ ⟨_,_,_,_,h,_⟩=>by rw[h];rfl,λ_ _ ⟨a,b,c,d,h,h1,h2,h3,h4⟩ k hk=>by
 rw[h]at hk
 simp only[IN,ck,fh]at hk
 rcases hk with rfl | rfl | rfl | rfl | rfl
 ·rfl
 ·exact h1.is.bF
 ·exact h2.is.bF
 ·exact h3.is.bF
 ·exact h4.is.bF⟩
theorem CA:∀r x,lF.P r x->∀k∈r,bT false k=true:=λr x ⟨a,b,c,d,h,h1,h2,h3,h4⟩ k hk=>by
 rw[h]at hk
 simp only[IN,ck,fh]at hk
 rcases hk with rfl | rfl | rfl | rfl | rfl
 ·rfl
 ·exact h1.tag
 ·exact h2.tag
 ·exact h3.tag
 ·exact h4.tag
theorem sL {α:Type}{L M:Lay α}{v:V}{l:List α}(h:IS L v l) (k:∀r x,L.P r x->M.P r x):IS M v l:=h.imp id λ⟨g,rs,full,e,ha⟩=>⟨g,rs,full,e,ha.imp k⟩
theorem RR {α:Type}{L M:Lay α}{t:Nat}{Z:Sg}{v:V}{l:List α}(h:LS L t Z v l)(hn:L.n=M.n) (k:∀r x,L.P r x->M.P r x):LS M t Z v l:=h.imp (λh=>sL h k) λ⟨b,cs,ex,rs,e,hb,ha,hc⟩=>⟨b,cs,ex,rs,e,hb,ha.imp k,by rw[<- hn];exact hc⟩
theorem rT:∀r x,gK.P r x->fQ.P r x:=λr x ⟨a,l,h,h1,h2⟩=>⟨a,l,h,h1.is,h2.is⟩
theorem wN:∀r x,lF.P r x->dO.P r x:=λr x ⟨a,b,c,d,h,h1,h2,h3,h4⟩=>⟨a,b,c,d,h,h1.is,h2.is,h3.is,sL h4.is rT⟩
theorem ID (h:bK E) {Y:Sg}{w a b c d:V}{l:List aD}{r:aD}{ex:Bool} (ow:aV lF 46 Y w l)(h1:jG aQ a r.ins)(h2:jG aQ b r.outs)(h3:jG aQ c r.after)(h4:jG gK d r.steps)(hb:l.length<=1000) :
  ∃w' τ',Ax.append E (Y++[.cells 46 [.str r.name,a,b,c,d] ex]) #[22,22] w (.sl Y.length 0 1 none)=some (w',τ')/\aV lF 46 τ' w' (l++[r])/\Sp (Y++[.cells 46 [.str r.name,a,b,c,d] ex]) τ' w/\Y.length<=τ'.length:=by
 obtain⟨w',τ',q1,q2,q3,q4,-⟩:=iR (m:=[r]) (new:=[[.str r.name,a,b,c,d]]) h.xP rfl h.bM rfl (by decide) (qB h) rfl (ow.app [.cells 46 [.str r.name,a,b,c,d] ex]) (kL rfl) (.one ⟨a,b,c,d,rfl,h1,h2,h3,h4⟩) (dA (b:=1001) (by decide) (by simp only[af,b8];omega))
 exact⟨w',τ',q1,q2,q3,by simp only[ak,af,b8]at q4;omega⟩
theorem J7 (h:bK E) {a:V}{rs:List aD}(ha:LS dO 46 Z a rs)(hr:∀x∈rs,Raw x):aB E 59 [a] Z λv σ'=>σ'=Z/\jG lF v ((rs.take 42).map cut):=by
 obtain⟨a',ea,ia⟩:=eJ h ha
 rw[aI h.hs59 h.sp59 h.fn59 h.md59 (args':=[a']) (by simp only[aW,ea]),aY (by kernel_rfl)]
 have la:=cZ h ia
 simp only[aA,Tryz.f59,KP,↓reduceIte,reduceLT]
 refine aS (λi F Y=>F.get 0=a'/\F.get 4=.int .i64 (i:Int)/\∃w,F.get 3=w/\aV lF 46 Y w ((rs.take i).map cut)) (min rs.length 42) ?_ ?_ (min rs.length 42) 0 _ _ (by omega) (lV (by simp +decide only[GS,ag]) ⟨.aF,(by simp +decide only[GS]),.inl ⟨rfl,rfl⟩⟩)
 ·rintro i F Y hi ⟨g0,g4,w,g3,ow⟩ next
  obtain⟨r,hri⟩:∃y,rs[i]?=some y:=⟨_,BY (by omega)⟩
  have hraw:=hr r (aa hri)
  obtain⟨g,p1,p2,p3,p4,e1,i1,i2,i3,i4⟩:=eH h ia hri
  have hlt:=dG (show i<rs.length by omega)
  have hlt2:decide ((i:Int)<42)=true:=AT (by omega)
  have hadd:=bQ i (by omega)
  rw[aC]
  simp only[KP,Ax.loadAt,↓reduceIte,reduceEqDiff,reduceLT,reduceAdd,reduceCtorEq,h.bM,g0,g3,g4,la,hlt,hlt2,e1]
  refine aP (Nq h (Jq i1 i2 i3 i4) hraw) ?_
  rintro v σ' ⟨rfl,a1,b1,c1,d1,rfl,j1,j2,j3,j4⟩
  have o1:=aN j1.is.bF
  have o2:=aN j2.is.bF
  have o3:=aN j3.is.bF
  have o4:=aN j4.is.bF
  have hnm:r.name=(cut r).name:=rfl
  obtain⟨w',τ',ha2,ow2,-,-⟩:=ID (r:=cut r) (ex:=true) h ow j1 j2 j3 j4 (by rw[bg,br];omega)
  rw[<- hnm]at ha2
  simp only[KP,↓reduceIte,reduceEqDiff,reduceLT,reduceLeDiff,reduceAdd,reduceMul,h.xP,h.bM,g4,ha2,hadd,o1,o2,o3,o4,Ax.fill,fR,ir]
  refine next _ _ (lV (by simp +decide only[GS,g0,ag]) ⟨w',(by simp +decide only[GS]),?_⟩)
  have e:(rs.take (i+1)).map cut=(rs.take i).map cut++[cut r]:=by rw[dn,hri];simp
  rw[e]
  exact ow2
 ·rintro F Y ⟨g0,g4,w,g3,ow⟩
  obtain⟨v',e1,iv⟩:=pD h.bM rfl CA ow
  have ht:rs.take (min rs.length 42)=rs.take 42:=xU rs 42
  rw[ht]at iv
  rw[aC]
  by_cases hlen:rs.length<=42
  ·have hm:min rs.length 42=rs.length:=my hlen
   rw[hm]at g4
   have hlt:=dH (b9 rs.length)
   simp only[KP,↓reduceIte,reduceEqDiff,reduceLT,reduceCtorEq,g0,g3,g4,la,hlt,e1]
   exact iv
  ·have hm:min rs.length 42=42:=Nat.min_eq_right (by omega)
   rw[hm]at g4
   have hlt:decide (((42:Nat):Int)<(rs.length:Int))=true:=AT (by omega)
   have hlt2:decide (((42:Nat):Int)<42)=false:=rfl
   simp only[KP,↓reduceIte,reduceEqDiff,reduceLT,reduceCtorEq,g0,g3,g4,la,hlt,hlt2,e1]
   exact iv
end
end
section
section
variable {E:Env}{Z:Sg}{K:V->Sg->Prop}
theorem Sv (h:bK E) {Y:Sg}{w a b c d:V}{l:List aD}{r:aD}{y:Nat} (ow:aV lF 46 Y w l)(hy:Y[y]?=some (.cells 46 [.str r.name,a,b,c,d] true)) (j1:jG aQ a r.ins) (j2:jG aQ b r.outs) (j3:jG aQ c r.after) (j4:jG gK d r.steps)(hs:∀x∈l++[r],Small x)(hl:l.length<=14)
  (F:FT) (g3:F.get 3=w) (g5:F.get 5=.ref y 0) {st:List gT}{Q:Ax.X->Fr->Sg->Prop}
  (hk:∀F' τ' e,(∀k,k∈[0,3,5,9,10,11]->F'.get k=F.get k)->F'.get 6=.int .i64 e->IV (l++[r]) e->(∀(k:Nat) (o:O),Y[k]?=some o->τ'[k]?=some o)->M E st .normal ⟨37,F'⟩ τ' Q):R E (.region 5 (opsOf (cutAt [1,1,0,1,2,2,1,1,0,2,1,0] (aA Tryz.f12).code)) true) st ⟨37,F⟩ Y Q:=by
 obtain⟨rs,ee,hee⟩:=Im (t:=46) (Z:=Y) ow.ls
 obtain⟨w1,τ1,ha1,ow1,QS,-,fb⟩:=iR (ats:=#[22,22]) (Z:=Y) (w:=.aF) (l:=[]) (L:=lF) (x:=w) (m:=l) h.xP rfl h.bM rfl (by decide) (qB h) rfl (.inl ⟨rfl,rfl⟩) ee hee (dA (b:=1000) (by decide) (by simp only[b8];omega))
 obtain⟨w2,τ2,ha2,ow2,GC,-,-⟩:=iR (ats:=#[22,22]) (Z:=τ1) (x:=.bS false [[.str r.name,a,b,c,d]] true) (m:=[r]) (new:=[[.str r.name,a,b,c,d]]) h.xP rfl h.bM rfl (by decide) (qB h) rfl ow1 rfl (.one ⟨a,b,c,d,rfl,j1,j2,j3,j4⟩) (dA (b:=1000) (by decide) (by simp only[cq,af,b8];omega))
 rw[cq]at ow2
 have hy1:τ1[y]?=some (.cells 46 [.str r.name,a,b,c,d] true):=QS _ _ hy (by intro e;cases e)
 have hall:=Qg (Z:=τ2) h (RR ow2.ls rfl wN) ⟨by simp only[ak,af,b8];omega,hs⟩
 obtain⟨n,v,σ',hcall,hσ,e,nm,rfl,hE⟩:=hall
 rw[hσ]at hcall
 clear hσ σ'
 have o1:=aN j1.is.bF
 have o2:=aN j2.is.bF
 have o3:=aN j3.is.bF
 have o4:=aN j4.is.bF
 have t1:=j1.tag
 have t2:=j2.tag
 have t3:=j3.tag
 have t4:=j4.tag
 have ts:bT false (.str r.name)=true:=rfl
 have v1:=cK 10 j1.is
 have v2:=cK 10 j2.is
 have v3:=cK 10 j3.is
 have v4:=oV 9 (sL j4.is rT)
 have vs:=xL 10 r.name
 have va:pA 12 (.agg [.str r.name,a,b,c,d]) (.agg [.str r.name,a,b,c,d])=true:=pY λx hx=>by
  simp only[IN,ck,fh]at hx
  rcases hx with rfl | rfl | rfl | rfl | rfl
  ·exact vs
  ·exact cK 9 j1.is
  ·exact cK 9 j2.is
  ·exact cK 9 j3.is
  ·exact oV 8 (sL j4.is rT)
 have key:∃F',bW E (ev E n) (opsOf (cutAt [1,1,0,1,2,2,1,1,0,2,1,0] (aA Tryz.f12).code)) ⟨37,F⟩ Y=some (⟨37,F'⟩,τ2)/\(∀k,k∈[0,3,5,9,10,11]->F'.get k=F.get k)/\F'.get 6=.int .i64 e:=by
  unfold bW
  rw[h.Wr,h.X_]
  simp only[aA,Tryz.f12,KP,Ax.loadAt,↓reduceIte,reduceEqDiff,reduceLT,reduceLeDiff,reduceAdd,reduceMul,h.xP,h.bM,opsOf,cutAt,Fz.lits,Fz.apps,fF,bJ,bV,jF,Ax.comp,Ax.last,eL,Ax.again,tK,Ax.fill,fR,Ax.rows,ir,g3,g5,hy,hy1,ha1,ha2,hcall,o1,o2,o3,o4,t1,t2,t3,t4,ts,va]
  refine⟨_,rfl,λk hk=>?_,(by simp +decide only[GS])⟩
  simp only[IN,ck,fh]at hk
  rcases hk with rfl | rfl | rfl | rfl | rfl | rfl <;> simp +decide only[GS]
 obtain⟨F',hD,h1,h2⟩:=key
 refine Eq.mpr (fO hD) (hk F' τ2 e h1 h2 hE λk o ho=>?_)
 have h1':=QS _ _ ho (by intro e;cases e)
 refine GC _ _ h1' λe=>?_
 rcases fb _ e with hb | hb
 ·cases hb
 ·exact absurd (AI.mp ho).1 (by omega)
theorem QC (h:bK E) {v:V}{l:List aD} (ia:IS lF v l) {i:Nat}{x:aD}(hx:l[i]?=some x):∃g a b c d,indexAddr E 22 v (.int .i64 (i:Int))=some (.cL g [.str x.name,a,b,c,d])/\jG aQ a x.ins/\jG aQ b x.outs/\jG aQ c x.after/\jG gK d x.steps:=by
 obtain⟨g,r,e,a,b,c,d,hr,h1⟩:=IS.at h.xP rfl h.bM rfl ia hx
 exact⟨g,a,b,c,d,by rw[e,hr],h1⟩
theorem Hg:nO []:=⟨rfl,λ⟨i,hi,_⟩=>absurd hi (by simp)⟩
theorem V4 (h:bK E) {a:V}{rs:List aD}(ha:LS dO 46 Z a rs)(hr:∀x∈rs,Raw x):aB E 12 [a] Z λv σ'=>σ'=Z/\∃l,jG lF v l/\nO l/\l.length<=14/\∀x∈l,Small x:=by
 obtain⟨a',ea,ia⟩:=eJ h ha
 rw[aI h.hs12 h.Of h.fn12 h.md12 (args':=[a']) (by simp only[aW,ea]),aY (by kernel_rfl)]
 simp only[aA,Tryz.f12,KP,↓reduceIte,reduceLT,reduceCtorEq]
 refine aP (J7 h (ia.ls [] 46) hr) ?_
 rintro v σ' ⟨rfl,iv⟩
 have sm:∀x∈(rs.take 42).map cut,Small x:=λx hx=>by
  obtain⟨y,-,rfl⟩:=cm.1 hx
  exact M7 y
 have hl42:((rs.take 42).map cut).length<=42:=by rw[bg,br];omega
 generalize (rs.take 42).map cut=ls at iv sm hl42
 have la:=cZ h (sL iv.is wN)
 simp only[KP,↓reduceIte,reduceLT,la]
 refine aS (λi F Y=>F.get 9=v/\F.get 10=.int .i64 (ls.length:Int)/\F.get 11=.int .i64 (i:Int)/\∃w l,F.get 3=w/\aV lF 46 Y w l/\nO l/\l.length<=14/\∀x∈l,Small x) ls.length ?_ ?_ ls.length 0 _ _ (by omega) (fJ (by simp +decide only[GS,ag]) ⟨.aF,[],(by simp +decide only[GS]),.inl ⟨rfl,rfl⟩,Hg,by simp,λx hx=>by cases hx⟩)
 ·rintro i F Y hi ⟨g9,g10,g11,w,l,g3,ow,hok,hlen,hsm⟩ next
  obtain⟨r,hri⟩:∃y,ls[i]?=some y:=⟨_,BY (by omega)⟩
  have hrs:=sm r (aa hri)
  obtain⟨g,p1,p2,p3,p4,e1,i1,i2,i3,i4⟩:=QC h iv.is hri
  have hlt:=dG hi
  have hadd:=bQ i (by omega)
  rw[aC]
  have o1:=aN i1.is.bF
  have o2:=aN i2.is.bF
  have o3:=aN i3.is.bF
  have o4:=aN i4.is.bF
  simp only[KP,Ax.loadAt,Ax.storeAt,↓reduceIte,reduceEqDiff,reduceLT,reduceAdd,h.bM,g9,g10,g11,hlt,e1,o1,o2,o3,o4,aL,cA]
  refine Sv h (ow.app _) (y:=Y.length) ?_ i1 i2 i3 i4 ?_ hlen _ ?_ ?_ ?_
  ·simp
  ·intro x hx
   rcases bt.1 hx with hx | hx
   ·exact hsm x hx
   ·rw[cj.1 hx];exact hrs
  ·exact (by simp +decide only[GS,g3])
  ·exact (by simp +decide only[GS])
  intro F' τ' e hF h6 hE hT
  have q3:F'.get 3=w:=(hF 3 (by simp)).trans (show _=w by simp only[FT.eB,reduceEqDiff,↓reduceIte,g3])
  have q5:F'.get 5=.ref Y.length 0:=(hF 5 (by simp)).trans (by simp +decide only[GS])
  have q9:F'.get 9=v:=(hF 9 (by simp)).trans (by simp +decide only[GS,g9])
  have CH:F'.get 10=.int .i64 (ls.length:Int):=(hF 10 (by simp)).trans (by simp +decide only[GS,g10])
  have I0:F'.get 11=.int .i64 (i:Int):=(hF 11 (by simp)).trans (by simp +decide only[GS,g11])
  have ow':aV lF 46 τ' w l:=(ow.app [O.cells 46 [.str r.name,p1,p2,p3,p4] true]).keep λc o _ hc=>hT c o hc
  have hy:τ'[Y.length]?=some (O.cells 46 [.str r.name,p1,p2,p3,p4] true):=hT _ _ (by simp)
  have lw:=mZ h.xP rfl ow'.ls
  have hz:=hE.zero
  by_cases he:e=0
  ·have c1:decide (e=0)=true:=AT he
   by_cases h14:l.length<14
   ·have c2:decide ((l.length:Int)<14)=true:=AT (by omega)
    obtain⟨w2,τ2,ha2,ow2,-,-⟩:=ID (ex:=true) h ow' i1 i2 i3 i4 (by omega)
    simp only[KP,Ax.loadAt,↓reduceIte,reduceEqDiff,reduceLT,reduceLeDiff,reduceAdd,reduceMul,h.xP,h.bM,q3,q5,I0,h6,lw,c1,c2,hy,hadd,ha2,o1,o2,o3,o4,Ax.fill,fR,ir]
    refine next _ _ (fJ (by simp +decide only[GS,q9,CH,ag]) ⟨w2,l++[r],(by simp +decide only[GS]),ow2,hz.1 he,?_,?_⟩)
    ·rw[ak,dz];omega
    ·intro x hx
     rcases bt.1 hx with hx | hx
     ·exact hsm x hx
     ·rw[cj.1 hx];exact hrs
   ·have c2:decide ((l.length:Int)<14)=false:=AS (by omega)
    simp only[KP,↓reduceIte,reduceEqDiff,reduceLT,q3,I0,h6,lw,c1,c2,hadd]
    exact next _ _ (fJ (by simp +decide only[GS,q9,CH,ag]) ⟨w,l,(by simp +decide only[GS,q3]),ow',hok,hlen,hsm⟩)
  ·have c1:decide (e=0)=false:=AS he
   simp only[KP,↓reduceIte,reduceEqDiff,reduceLT,I0,h6,c1,hadd]
   exact next _ _ (fJ (by simp +decide only[GS,q9,CH,ag]) ⟨w,l,(by simp +decide only[GS,q3]),ow',hok,hlen,hsm⟩)
 ·rintro F Y ⟨g9,g10,g11,w,l,g3,ow,hok,hlen,hsm⟩
  obtain⟨v',e1,iv⟩:=pD h.bM rfl CA ow
  have hlt:=dH (b9 ls.length)
  rw[aC]
  simp only[KP,↓reduceIte,reduceEqDiff,reduceLT,g3,g10,g11,hlt,e1]
  exact⟨l,iv,hok,hlen,hsm⟩
end
end
section
section
variable {E:Env}{Z:Sg}{K:V->Sg->Prop}
theorem rV {k:Nat}{caps:List V}(hc:∀c∈caps,Ax.bF c=true) (Z:Sg):aT Z E.ty true (.fn k [] caps)=some (.fn k [] caps):=by
 have e:aW (aT.one Z E.ty true) caps=some caps:=gH λc hx=>by
  have:=cN (Z:=Z) (ty:=E.ty) (g:=true) (hc c hx) (bZ (hc c hx))
  have h2:=hc c hx
  cases c <;> first | exact this | cases h2
 simp only[aT,e,aW]
theorem Tk (h:bK E) {a:V}{l:List bH}{k:Nat}{caps:List V}{P:bH->Bool}(ha:LS aQ 9 Z a l)(hsm:l.length<=4294967296)(hc:∀c∈caps,Ax.bF c=true)(hP:∀(y:bH) (v:V),y∈l->v=.str y->aB E k ([v]++caps) [] λu Y=>Y=[]/\u=.bool (P y)) {fv:V} (ef:aT Z E.ty true fv=some (.fn k [] caps)):aB E 74 [a,fv] Z K=K (.int .i64 (idx (bI P l))) Z:=by
 refine aB.of ?_
 obtain⟨a',ea,ia⟩:=kD h ha
 rw[aI h.hs74 h.sp74 h.fn74 h.md74 (args':=[a',.fn k [] caps]) (by simp only[aW,ea,ef]),aY (by kernel_rfl)]
 have la:=bU h ia
 simp only[aA,Tryz.f74,KP,↓reduceIte,reduceLT,reduceAdd,reduceCtorEq,reduceNeg,la]
 refine aS (λi F Y=>Y=[]/\F.get 0=a'/\F.get 1=.fn k [] caps/\F.get 8=.int .i64 (i:Int)/\F.get 7=.int .i64 (l.length:Int)/\∀j y,j<i->l[j]?=some y->P y=false) l.length ?_ ?_ l.length 0 _ _ (by omega) ⟨rfl,(fM (by simp +decide only[GS,ag]) (λj y hj=>by omega))⟩
 ·rintro i F Y hi ⟨rfl,g0,g1,g8,g7,hp⟩ next
  obtain⟨x,hx⟩:∃x,l[i]?=some x:=⟨_,BY hi⟩
  obtain⟨g,e1⟩:=g_ h ia hx
  have hv:V.str x=.str x:=rfl
  have hlt:=dG hi
  have hadd:=bQ i (by omega)
  rw[aC]
  simp only[KP,Ax.loadAt,↓reduceIte,reduceEqDiff,reduceLT,reduceCtorEq,reduceNeg,h.c_,g0,g1,g7,g8,hlt,e1]
  refine aP (hP x _ (aa hx) hv) ?_
  rintro u Y ⟨rfl,rfl⟩
  by_cases hxs:P x=true
  ·simp only[KP,↓reduceIte,reduceEqDiff,reduceLT,reduceNeg,hxs]
   rw[fP (i:=i) (x:=x) hp hx hxs]
   exact rfl
  ·have hxs:P x=false:=by simpa using hxs
   simp only[KP,↓reduceIte,reduceEqDiff,reduceLT,reduceNeg,g8,hxs,hadd]
   refine next _ _ ⟨rfl,(fM (by simp +decide only[GS,g0,g1,g7,ag]) (λj y hj hy=>?_))⟩
   rcases bz j i with g | g
   ·exact hp j y g hy
   ·obtain rfl:j=i:=by omega
    rw[hx]at hy;cases hy;exact hxs
 ·rintro F Y ⟨rfl,g0,g1,g8,g7,hp⟩
  have hlt:=dH (b9 l.length)
  rw[aC]
  simp only[KP,↓reduceIte,reduceLT,reduceNeg,g7,g8,hlt]
  rw[dS λx hx=>by
   obtain⟨j,hj,e⟩:=ez hx
   exact hp j x hj (by rw[BY hj,e])]
  exact rfl
theorem V2 (h:bK E) {a:V}{l:List bH}{k:Nat}{caps:List V}{P:bH->Bool}(ha:LS aQ 9 Z a l)(hsm:l.length<=4294967296)(hc:∀c∈caps,Ax.bF c=true)(hP:∀(y:bH) (v:V),y∈l->v=.str y->aB E k ([v]++caps) [] λu Y=>Y=[]/\u=.bool (P y)):aB E 74 [a,.fn k [] caps] Z K=K (.int .i64 (idx (bI P l))) Z:=Tk h ha hsm hc hP (rV hc Z)
theorem rN (h:bK E) {a:V}{l:List bH}{k:Nat}{caps:List V}{P:bH->Bool}(ha:LS aQ 9 Z a l)(hsm:l.length<=4294967296)(hc:∀c∈caps,Ax.bF c=true)(hP:∀(y:bH) (v:V),y∈l->v=.str y->aB E k ([v]++caps) [] λu Y=>Y=[]/\u=.bool (P y)) {fv:V} (ef:aT Z E.ty true fv=some (.fn k [] caps)):aB E 76 [a,fv] Z K=K (.bool (l.any P)) Z:=by
 refine aB.of ?_
 obtain⟨a',ea,ia⟩:=kD h ha
 rw[aI h.hs76 h.sp76 h.fn76 h.md76 (args':=[a',.fn k [] caps]) (by simp only[aW,ea,ef]),aY (by kernel_rfl)]
 have key:=λK=>V2 (Z:=[]) (K:=K) h (ia.ls [] 9) hsm hc hP
 have kk:=cU key
 simp only[aA,Tryz.f76,KP,↓reduceIte,reduceEqDiff,reduceLT,reduceAdd,reduceCtorEq,kk,kS,cI]
 exact rfl
theorem LQ (h:bK E) {a:V}{l:List bH}{k:Nat}{caps:List V}{P:bH->Bool}(ha:LS aQ 9 Z a l)(hsm:l.length<=4294967296)(hc:∀c∈caps,Ax.bF c=true)(hP:∀(y:bH) (v:V),y∈l->v=.str y->aB E k ([v]++caps) [] λu Y=>Y=[]/\u=.bool (P y)):aB E 76 [a,.fn k [] caps] Z K=K (.bool (l.any P)) Z:=rN h ha hsm hc hP (rV hc Z)
theorem Ls (h:bK E) {a:V}{l:List bH}{k:Nat}{caps:List V}{P:bH->Bool}(ha:LS aQ 9 Z a l)(hsm:l.length<=4294967296)(hc:∀c∈caps,Ax.bF c=true)(hP:∀(y:bH) (v:V),y∈l->v=.str y->aB E k ([v]++caps) [] λu Y=>Y=[]/\u=.bool (P y)):KC E 76 [a,.fn k [] caps] Z (.bool (l.any P)) Z:=cU λ_=>LQ h ha hsm hc hP
theorem Ns (h:bK E) {a:V}{l:List AxS.Step}{k:Nat}{caps:List V}{P:AxS.Step->Bool}(ha:LS fQ 113 Z a l)(hsm:l.length<=4294967296)(hc:∀c∈caps,Ax.bF c=true)(hP:∀(y:AxS.Step) (v:V),y∈l->NA v y->aB E k ([v]++caps) [] λu Y=>Y=[]/\u=.bool (P y)) {fv:V} (ef:aT Z E.ty true fv=some (.fn k [] caps)):aB E 246 [a,fv] Z K=K (.int .i64 (idx (bI P l))) Z:=by
 refine aB.of ?_
 obtain⟨a',ea,ia⟩:=Co h ha
 rw[aI h.Zh h.WH h.Z8 h.Yo (args':=[a',.fn k [] caps]) (by simp only[aW,ea,ef]),aY (by kernel_rfl)]
 have la:=lS h ia
 simp only[aA,Tryz.f246,KP,↓reduceIte,reduceLT,reduceAdd,reduceCtorEq,reduceNeg,la]
 refine aS (λi F Y=>Y=[]/\F.get 0=a'/\F.get 1=.fn k [] caps/\F.get 8=.int .i64 (i:Int)/\F.get 7=.int .i64 (l.length:Int)/\∀j y,j<i->l[j]?=some y->P y=false) l.length ?_ ?_ l.length 0 _ _ (by omega) ⟨rfl,(fM (by simp +decide only[GS,ag]) (λj y hj=>by omega))⟩
 ·rintro i F Y hi ⟨rfl,g0,g1,g8,g7,hp⟩ next
  obtain⟨x,hx⟩:∃x,l[i]?=some x:=⟨_,BY hi⟩
  obtain⟨g,p1,p2,e1,i1,i2⟩:=vJ h ia hx
  have hv:NA (.agg [.str x.out,.int .i64 x.op,p1,p2,.int .i64 x.n]) x:=⟨p1,p2,rfl,i1,i2⟩
  have hlt:=dG hi
  have hadd:=bQ i (by omega)
  rw[aC]
  simp only[KP,Ax.loadAt,↓reduceIte,reduceEqDiff,reduceLT,reduceAdd,reduceCtorEq,reduceNeg,h.bR,g0,g1,g7,g8,hlt,e1]
  refine aP (hP x _ (aa hx) hv) ?_
  rintro u Y ⟨rfl,rfl⟩
  by_cases hxs:P x=true
  ·simp only[KP,↓reduceIte,reduceEqDiff,reduceLT,reduceNeg,hxs]
   rw[fP (i:=i) (x:=x) hp hx hxs]
   exact rfl
  ·have hxs:P x=false:=by simpa using hxs
   simp only[KP,↓reduceIte,reduceEqDiff,reduceLT,reduceNeg,g8,hxs,hadd]
   refine next _ _ ⟨rfl,(fM (by simp +decide only[GS,g0,g1,g7,ag]) (λj y hj hy=>?_))⟩
   rcases bz j i with g | g
   ·exact hp j y g hy
   ·obtain rfl:j=i:=by omega
    rw[hx]at hy;cases hy;exact hxs
 ·rintro F Y ⟨rfl,g0,g1,g8,g7,hp⟩
  have hlt:=dH (b9 l.length)
  rw[aC]
  simp only[KP,↓reduceIte,reduceLT,reduceNeg,g7,g8,hlt]
  rw[dS λx hx=>by
   obtain⟨j,hj,e⟩:=ez hx
   exact hp j x hj (by rw[BY hj,e])]
  exact rfl
theorem Qs (h:bK E) {a:V}{l:List AxS.Step}{k:Nat}{caps:List V}{P:AxS.Step->Bool}(ha:LS fQ 113 Z a l)(hsm:l.length<=4294967296)(hc:∀c∈caps,Ax.bF c=true)(hP:∀(y:AxS.Step) (v:V),y∈l->NA v y->aB E k ([v]++caps) [] λu Y=>Y=[]/\u=.bool (P y)):aB E 246 [a,.fn k [] caps] Z K=K (.int .i64 (idx (bI P l))) Z:=Ns h ha hsm hc hP (rV hc Z)
theorem J9 (h:bK E) {a:V}{l:List AxS.Step}{k:Nat}{caps:List V}{P:AxS.Step->Bool}(ha:LS fQ 113 Z a l)(hsm:l.length<=4294967296)(hc:∀c∈caps,Ax.bF c=true)(hP:∀(y:AxS.Step) (v:V),y∈l->NA v y->aB E k ([v]++caps) [] λu Y=>Y=[]/\u=.bool (P y)) {fv:V} (ef:aT Z E.ty true fv=some (.fn k [] caps)):aB E 207 [a,fv] Z K=K (.bool (l.any P)) Z:=by
 refine aB.of ?_
 obtain⟨a',ea,ia⟩:=Co h ha
 rw[aI h.Zq h.WR h.aag h.Yx (args':=[a',.fn k [] caps]) (by simp only[aW,ea,ef]),aY (by kernel_rfl)]
 have key:=λK=>Qs (Z:=[]) (K:=K) h (ia.ls [] 113) hsm hc hP
 have kk:=cU key
 simp only[aA,Tryz.f207,KP,↓reduceIte,reduceEqDiff,reduceLT,reduceAdd,reduceCtorEq,kk,kS,cI]
 exact rfl
theorem Nt (h:bK E) {a:V}{l:List AxS.Step}{k:Nat}{caps:List V}{P:AxS.Step->Bool}(ha:LS fQ 113 Z a l)(hsm:l.length<=4294967296)(hc:∀c∈caps,Ax.bF c=true)(hP:∀(y:AxS.Step) (v:V),y∈l->NA v y->aB E k ([v]++caps) [] λu Y=>Y=[]/\u=.bool (P y)):aB E 207 [a,.fn k [] caps] Z K=K (.bool (l.any P)) Z:=J9 h ha hsm hc hP (rV hc Z)
theorem MS (h:bK E) {a:V}{l:List AxS.Step}{k:Nat}{caps:List V}{P:AxS.Step->Bool}(ha:LS fQ 113 Z a l)(hsm:l.length<=4294967296)(hc:∀c∈caps,Ax.bF c=true)(hP:∀(y:AxS.Step) (v:V),y∈l->NA v y->aB E k ([v]++caps) [] λu Y=>Y=[]/\u=.bool (P y)):KC E 207 [a,.fn k [] caps] Z (.bool (l.any P)) Z:=cU λ_=>Nt h ha hsm hc hP
theorem abq (h:bK E) {a:V}{l:List bH}{s:bH}(ha:LS aQ 9 Z a l)(hsm:l.length<=4294967296):aB E 128 [a,.str s] Z K=K (.int .i64 (idx (bI (λx=>decide (x=s)) l))) Z:=by
 refine aB.of ?_
 obtain⟨a',ea,ia⟩:=kD h ha
 rw[aI h.ZJ h.Xd h.aax h.YO (args':=[a',.str s]) (by simp only[aW,ea,dM]),aY (by kernel_rfl)]
 have la:=bU h ia
 simp only[aA,Tryz.f128,KP,↓reduceIte,reduceLT,reduceAdd,reduceCtorEq,reduceNeg,la]
 refine aS (λi F Y=>Y=[]/\F.get 0=a'/\F.get 1=.str s/\F.get 8=.int .i64 (i:Int)/\F.get 7=.int .i64 (l.length:Int)/\∀j y,j<i->l[j]?=some y->y≠s) l.length ?_ ?_ l.length 0 _ _ (by omega) ⟨rfl,(fM (by simp +decide only[GS,ag]) (λj y hj=>by omega))⟩
 ·rintro i F Y hi ⟨rfl,g0,g1,g8,g7,hp⟩ next
  obtain⟨x,hx⟩:∃x,l[i]?=some x:=⟨_,BY hi⟩
  obtain⟨g,e1⟩:=g_ h ia hx
  have hlt:=dG hi
  have hadd:=bQ i (by omega)
  rw[aC]
  by_cases hxs:x=s
  ·have hs:=iS hxs.symm
   simp only[KP,Ax.loadAt,↓reduceIte,reduceEqDiff,reduceLT,reduceCtorEq,reduceNeg,h.c_,g0,g1,g7,g8,hlt,e1,hs]
   rw[fP (i:=i) (x:=x) (λj y hj hy=>AS (hp j y hj hy)) hx (AT hxs)]
   exact rfl
  ·have hs:=gU (ju hxs)
   simp only[KP,Ax.loadAt,↓reduceIte,reduceEqDiff,reduceLT,reduceCtorEq,reduceNeg,h.c_,g0,g1,g7,g8,hlt,e1,hs,hadd]
   refine next _ _ ⟨rfl,(fM (by simp +decide only[GS,g0,g1,g7,ag]) (λj y hj hy=>?_))⟩
   rcases bz j i with g | g
   ·exact hp j y g hy
   ·obtain rfl:j=i:=by omega
    rw[hx]at hy;cases hy;exact hxs
 ·rintro F Y ⟨rfl,g0,g1,g8,g7,hp⟩
  have hlt:=dH (b9 l.length)
  rw[aC]
  simp only[KP,↓reduceIte,reduceLT,reduceNeg,g7,g8,hlt]
  rw[dS λx hx=>by
   obtain⟨j,hj,e⟩:=ez hx
   exact AS (hp j x hj (by rw[BY hj,e]))]
  exact rfl
theorem V5 (h:bK E) {a:V}{l:List bH}{s:bH}(ha:LS aQ 9 Z a l)(hsm:l.length<=4294967296):aB E 94 [a,.str s] Z K=K (.bool (decide (s∈l))) Z:=by
 refine aB.of ?_
 obtain⟨a',ea,ia⟩:=kD h ha
 rw[aI h.hs94 h.sp94 h.fn94 h.md94 (args':=[a',.str s]) (by simp only[aW,ea,dM]),aY (by kernel_rfl)]
 have kk:=cU (λK=>abq (Z:=[]) (s:=s) (K:=K) h (ia.ls [] 9) hsm)
 simp only[aA,Tryz.f94,KP,↓reduceIte,reduceEqDiff,reduceLT,reduceAdd,reduceCtorEq,kk,kS,cI,any_eq]
 exact rfl
theorem C8 (h:bK E) {a:V}{l:List bH}{s:bH}(ha:LS aQ 9 Z a l)(hsm:l.length<=4294967296):KC E 94 [a,.str s] Z (.bool (decide (s∈l))) Z:=cU λ_=>V5 h ha hsm
end
end
end Go.Proofs.YtmhchflckonklaaGreatDoor
end
