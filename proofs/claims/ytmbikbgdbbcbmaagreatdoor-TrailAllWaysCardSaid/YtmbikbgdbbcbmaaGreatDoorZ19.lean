/- Part 19 of the proof. -/
import Derived.Test.YtmbikbgdbbcbmaaGreatDoorY
import Derived.Test.YtmbikbgdbbcbmaaGreatDoorZ18
import Derived.Test.YtmbikbgdbbcbmaaGreatDoorZ17
import Derived.Test.YtmbikbgdbbcbmaaGreatDoorZ14
import Derived.Test.YtmbikbgdbbcbmaaGreatDoorZ15
import Derived.Test.YtmbikbgdbbcbmaaGreatDoorZ16
set_option maxHeartbeats 8000000
set_option linter.unusedVariables false
set_option maxRecDepth 10000
open Nat renaming reduceEqDiff→δ,reduceLT→ε,reduceAdd→μ,reduceLeDiff→ω,reduceMul→ap
open Go.Ax.O renaming cells→ζ
open Go.Ax renaming cutAt→η,loadAt→ι,storeAt→Ξ,opsOf→Φ,entriesOf→bm,bE→ge,rows→gn,X→io,plainCell→n7,lookup→pj
open Go.Proofs.Tryz renaming prog→κ,f106→Ω,f101→cy,f77→dq,f34→hO
open Int renaming reduceNeg→φ,reduceLT→dv
open Go renaming Operand→χ,Oper→cd
open Prod renaming fst→be
open Go.Proofs.YtmbikbgdbbcbmaaGreatDoor.Lb renaming bK→bv
open Go.Region renaming binds→cY,linearise→i7
open List renaming length→df,mem_of_mem_drop→mf
open Array renaming replicate→dC
open Go.Region.linearise renaming go→ii
section
namespace Go.Proofs.YtmbikbgdbbcbmaaGreatDoor
open Go Go.Ax Go.AxS
section
section
variable {E:Env}{Z:Sg}{K:V->Sg->Prop}
theorem xD.bE{g:V}{rs:List aD}(hg:xD E rs g):ge g=true:=by
 obtain⟨es0,es1,get,A,L3,L4,rfl,-⟩:=hg;rfl
theorem Wq{g:V}{rs:List aD}(hg:xD E rs g)(k:Nat)(Z:Sg):aR Z E.ty true (.fn k [g] [])=some (.fn k [g] []):=by
 have e:=bZ (Z:=Z) (ty:=E.ty) hg.bE (bJ hg.bE);obtain⟨es0,es1,get,A,L3,L4,rfl,-⟩:=hg;have e':aR.one Z E.ty true (gV es0 es1 A L3 L4)=some (gV es0 es1 A L3 L4):=e
 show (match aW (aR.one Z E.ty true) [gV es0 es1 A L3 L4],aW (aR.one Z E.ty true) [] with
  |some a,some b=>some (V.fn k a b)
  |_,_=>none)=_
 simp only[aW,e']
theorem xP.cQ{v:V}{l:List aC}(hv:xP v l)(Y:Sg):cQ Y E.ty false v=some v:=by
 rcases hv with⟨rfl,-⟩ | ⟨full,rfl⟩ <;> rfl
theorem vG{rs:List aD}(x y:aC)(hy:y∈bH rs x):y∈c_ rs:=(GM (nN.1 hy)).2
theorem CI{rs:List aD}(x y:aC)(hy:y∈fE rs x):y∈c_ rs:=(GM (wM.1 hy)).1
theorem MV(h:bG E)(h':mL E)(hl:bv E)(q:uM E)(rc:Sq E){k0:Nat}{g:V}{rs:List aD}(hg:xD E rs g)(hf:Fits rs){nx:aC->List aC}(hnx:NxL E k0 g nx)(hall:∀x y,y∈nx x->y∈c_ rs)(hup:∀x,Up (nx x)){bC:Int}(hf1:-1<=bC)(hf2:bC<=9223372036854775807){a:V}{ls:List aC}(ha:LS cN 51 Z a ls)(hls:ls.length<=1000000) :
  aB E 77 [g,.int .i64 bC,.fn k0 [g] [],a] Z λv σ'=>σ'=Z/\∃l,xP v l/\Up l/\(∀x,x∈l->x∈c_ rs)/\∀x,x∈l ↔ EO nx (λx=>x∈ls/\x∈c_ rs) bC x:=by
 obtain⟨a',ea,ia⟩:=iJ h ha;have e1:=bZ (Z:=Z) (ty:=E.ty) hg.bE (bJ hg.bE);have e2:=Wq hg k0 Z;have e3:aR Z E.ty true (.int .i64 bC)=some (.int .i64 bC):=rfl;have hlen:=kP hf;have hnl:∀x,(nx x).length<=2000:=λx=>e8 (eO (hup x).nodup (hall x)) hlen;rw[aH rc.hs77 rc.sp77 rc.fn77 rc.md77 (args':=[g,.int .i64 bC,.fn k0 [g] [],a']) (by simp only[aW,e1,e2,e3,ea]),aU (by kernel_rfl)];have seed:=λ{b m Y} hs F g0 g3 g9 g10 st Q hk=>Td (b:=b) (m:=m) (Y:=Y) h h' hl q rc hg hf (bC:=.int .i64 bC) (nf:=.fn k0 [g] []) ia hls hs F g0 g3 g9 g10 (st:=st) (Q:=Q) hk;have rounds:=λ{b m A now wn Y} hs on hA hn hsub hnlen F g1 g2 g9 g10 st Q hk=>Nz (b:=b) (m:=m) (A:=A) (now:=now) (wn:=wn) (Y:=Y) h h' hl q rc hnx hall hlen hnl (s0:=λx=>x∈ls/\x∈c_ rs) hf1 hf2 hs on hA hn hsub hnlen F g1 g2 g9 g10 (st:=st) (Q:=Q) hk;rw[show (aA dq).code=.seq (η [0] (aA dq).code) (.seq (η [1,0] (aA dq).code) (.seq (η [1,1,0] (aA dq).code) (.seq (η [1,1,1,0] (aA dq).code) (.seq (η [1,1,1,1,0] (aA dq).code) (η [1,1,1,1,1] (aA dq).code))))) from rfl];generalize η [1,1,1,0] (aA dq).code=S at seed ⊢;generalize η [1,1,1,1,0] (aA dq).code=T at rounds ⊢;simp only[aA,dq,KP,↓reduceIte,ε,μ,η];refine aK (Lb.Em hl (l:=[]) (.inl ⟨rfl,rfl⟩) (gv _)) ?_;rintro v Y ⟨m,rfl,hs,-,-⟩;rw[show ([]:Sg).length=0 from rfl]at hs ⊢;simp only[KP,↓reduceIte,ε];refine seed hs _ ?_ ?_ ?_ ?_ _ _ (λF2 τ2 wn A now hF g10 hs2 on2 sd=>?_)
 ·simp+decide only[GS]
 ·simp+decide only[GS]
 ·simp+decide only[GS]
 ·simp+decide only[GS]
 simp only[KP];have q1:F2.get 1=.int .i64 bC:=(hF 1 (by simp)).trans (by simp+decide only[GS]);have q2:F2.get 2=.fn k0 [g] []:=(hF 2 (by simp)).trans (by simp+decide only[GS]);have q9:F2.get 9=.ref 0 0:=(hF 9 (by simp)).trans (by simp+decide only[GS]);refine rounds hs2 on2 sd.mem sd.nw (λx hx=>((sd.mem x).1 hx).2) sd.len _ ?_ ?_ ?_ ?_ _ _ (λF3 τ3 A3 g9 hs3 hsub hA3=>?_)
 ·simp+decide only[q1]
 ·simp+decide only[q2]
 ·simp+decide only[q9]
 ·simp+decide only[g10]
 have l3:=e8 (eO hs3.nodup hsub) hlen;simp only[KP,↓reduceIte,ε,reduceCtorEq,hl.oW,hl.uQ,g9];refine aK (Lb.Vw hl hs3 (by omega) (λx hx=>by have:=mD (hf.lab (hsub x hx));omega)) ?_;rintro r τ4 ⟨ho,-⟩;obtain⟨v',hv,hlv⟩:=nW hl ho;simp only[KP,↓reduceIte,ε,hv];exact⟨_,hlv,lI _,λx hx=>hsub x (eP.1 hx),λx=>by rw[eP];exact hA3 x⟩
theorem X6(h:bG E)(h':mL E)(hl:bv E)(q:uM E)(rc:Sq E){g:V}{rs:List aD}(hg:xD E rs g)(hf:Fits rs){bC:Int}(hf1:-9223372036854775808<=bC)(hf2:bC<=9223372036854775807){a:V}{ls:List aC}(ha:LS cN 51 Z a ls)(hls:ls.length<=1000000) :
  aB E 17 [g,.int .i64 bC,a] Z λv σ'=>σ'=Z/\∃l,xP v l/\Up l/\(∀x,x∈l->x∈c_ rs)/\∀x,x∈l ↔ EO (bH rs) (λx=>x∈ls/\x∈c_ rs) (if bC < -1 then -1 else bC) x:=by
 obtain⟨a',ea,ia⟩:=iJ h ha;have e1:=bZ (Z:=Z) (ty:=E.ty) hg.bE (bJ hg.bE);have e3:aR Z E.ty true (.int .i64 bC)=some (.int .i64 bC):=rfl;rw[aH rc.hs17 rc.PD rc.fn17 rc.md17 (args':=[g,.int .i64 bC,a']) (by simp only[aW,e1,e3,ea]),aU (by kernel_rfl)];have hm:iN true .i64 bC [.int .i64 (-1)]=some (if bC < -1 then -1 else bC):=rfl;have hb:-1<=(if bC < -1 then -1 else bC)/\(if bC < -1 then -1 else bC)<=9223372036854775807:=by split <;> omega
 generalize (if bC < -1 then -1 else bC)=far2 at hm hb ⊢;simp only[aA,Tryz.f17,KP,↓reduceIte,δ,ε,μ,reduceCtorEq,φ,hm];refine aK (MV h h' hl q rc hg hf (nx:=bH rs) (λY x=>vX h h' hl q hg hf x) vG (vH rs) hb.1 hb.2 (ia.ls [] 51) hls) ?_;rintro v σ' ⟨rfl,l,hv,hr⟩;have es:=hv.cQ (E:=E) [];simp only[KP,↓reduceIte,ε,φ,es];exact⟨l,hv,hr⟩
theorem UT(h:bG E)(h':mL E)(hl:bv E)(q:uM E)(rc:Sq E){g:V}{rs:List aD}(hg:xD E rs g)(hf:Fits rs){a:V}{ls:List aC}(ha:LS cN 51 Z a ls)(hls:ls.length<=1000000) :
  aB E 19 [g,a] Z λv σ'=>σ'=Z/\∃l,xP v l/\Up l/\(∀x,x∈l->x∈c_ rs)/\∀x,x∈l ↔ EO (fE rs) (λx=>x∈ls/\x∈c_ rs) (-1) x:=by
 obtain⟨a',ea,ia⟩:=iJ h ha;have e1:=bZ (Z:=Z) (ty:=E.ty) hg.bE (bJ hg.bE);rw[aH rc.hs19 rc.PC rc.fn19 rc.md19 (args':=[g,a']) (by simp only[aW,e1,ea]),aU (by kernel_rfl)];simp only[aA,Tryz.f19,KP,↓reduceIte,δ,ε,μ,reduceCtorEq,φ];refine aK (MV h h' hl q rc hg hf (nx:=fE rs) (λY x=>An h h' hl q hg hf x) CI (CJ rs) (by decide) (by decide) (ia.ls [] 51) hls) ?_;rintro v σ' ⟨rfl,l,hv,hr⟩;have es:=hv.cQ (E:=E) [];simp only[KP,↓reduceIte,ε,φ,es];exact⟨l,hv,hr⟩
end
structure Bo (E:Env):Prop where
 abZ:E.hspec 101=none
 Zp:E.spec 101=none
 acY:E.fn 101=some (aA cy)
 aaY:E.mode 101=.eW
 UB:aN E (η [1,1,1,1,0,2,2,1,2,1,0,1,2,2,1,1,0,2,1,1,2,2,1,1,0,2,1,1,1,0,0] (aA cy).code)=true
 hs34:E.hspec 34=none
 sp34:E.spec 34=none
 fn34:E.fn 34=some (aA hO)
 md34:E.mode 34=.eW
 abY:E.hspec 103=none
 Zo:E.spec 103=none
 acX:E.fn 103=some (aA Tryz.f103)
 aaX:E.mode 103=.eW
 hs40:E.hspec 40=none
 sp40:E.spec 40=none
 fn40:E.fn 40=some (aA Tryz.f40)
 md40:E.mode 40=.eW
 d40_4:aN E (η [1,0,1,2,2,1,1,0,2,1,0] (aA Tryz.f40).code)=true
 Rj:E.hspec 102=none
 PI:E.spec 102=none
 Ry:E.fn 102=some (aA Tryz.f102)
 Qu:E.mode 102=.eW
 hs108:E.hspec 108=none
 sp108:E.spec 108=none
 fn108:E.fn 108=some (aA Tryz.f108)
 md108:E.mode 108=.eW
 hs136:E.hspec 136=none
 sp136:E.spec 136=none
 fn136:E.fn 136=some (aA Tryz.f136)
 md136:E.mode 136=.eW
 d136_4:aN E (η [1,0,1,2,2,1,1,0,2,1,0] (aA Tryz.f136).code)=true
 qT:E.ty 131=some { kd:=.map 51 3,size:=1,bytes:=8,zero:=.cA }
section
variable {E:Env}{Z:Sg}{K:V->Sg->Prop}
def Gj(nx:aC->List aC)(s0:aC->Prop)(d:Nat)(x:aC):Prop:=Rk nx s0 d x/\∀d',d'<d->¬ Rk nx s0 d' x
section
variable {nx:aC->List aC}{s0:aC->Prop}
theorem Gj.uniq{d e:Nat}{x:aC}(h:Gj nx s0 d x)(h':Gj nx s0 e x):d=e:=by
 rcases jn d e with h1 | h1 | h1
 ·exact absurd h.1 (h'.2 d h1)
 ·exact h1
 ·exact absurd h'.1 (h.2 e h1)
theorem Gj.some{n:Nat}{x:aC}(h:Rk nx s0 n x):∃d,d<=n/\Gj nx s0 d x:=by
 induction n using Nat.strongRecOn with
 |_ n ih=>
  by_cases hx:∃m,m<n/\Rk nx s0 m x
  ·obtain⟨m,hm,hr⟩:=hx;obtain⟨d,hd,hi⟩:=ih m hm hr;exact⟨d,by omega,hi⟩
  ·exact⟨n,OF _,h,λd' hd hr=>hx ⟨d',hd,hr⟩⟩
theorem Gj.back{d:Nat}{x:aC}(h:Gj nx s0 (d+1) x):∃y,Gj nx s0 d y/\x∈nx y:=by
 rcases h.1 with h1 | ⟨y,hy,hx⟩
 ·exact absurd h1 (h.2 d (nq d))
 ·refine⟨y,⟨hy,λd' hd hr=>?_⟩,hx⟩;exact h.2 (d'+1) (by omega) (.inr ⟨y,hr,hx⟩)
theorem Gj.next{d e:Nat}{x y:aC}(h:Gj nx s0 d y)(hx:x∈nx y)(h':Gj nx s0 e x):e<=d+1:=
 oz λhlt=>h'.2 (d+1) hlt (.inr ⟨y,h.1,hx⟩)
structure Di (nx:aC->List aC) (s0:aC->Prop) (k:Nat) (A now:List aC) (f:aC->Option Nat):Prop where
 rd:Rd nx s0 k A now
 is:∀x,x∈A->∃d,f x=some d/\Gj nx s0 d x
 no:∀x,x ∉ A->f x=none
 last:∀x,x∈now->Gj nx s0 k x
theorem Di.start{A now:List aC}{f:aC->Option Nat}(h1:∀x,x∈A ↔ s0 x)(h2:∀x,x∈now ↔ x∈A)(hf:∀x,x∈A->f x=some 0)(hn:∀x,x ∉ A->f x=none):Di nx s0 0 A now f:=
 ⟨Rd.start h1 h2,λx hx=>⟨0,hf x hx,(h1 x).1 hx,λd' hd=>by omega⟩,hn,λx hx=>⟨(h1 x).1 ((h2 x).1 hx),λd' hd=>by omega⟩⟩
theorem Di.next{k:Nat}{A now A' more:List aC}{f f':aC->Option Nat}(h:Di nx s0 k A now f)(h1:∀x,x∈A' ↔ x∈A\/∃y∈now,x∈nx y)(h2:∀x,x∈more ↔ x∈A'/\x ∉ A)(hf:∀x,x∈more->f' x=some (k+1))(hf':∀x,x ∉ more->f' x=f x):Di nx s0 (k+1) A' more f':=by
 have rd:=h.rd.next h1 h2
 have hm:∀x,x∈more->Gj nx s0 (k+1) x:=λx hx=>by
  obtain⟨hA',hA⟩:=(h2 x).1 hx;exact⟨(rd.all x).1 hA',λd' hd hr=>hA ((h.rd.all x).2 (hr.mono (by omega)))⟩
 refine⟨rd,λx hx=>?_,λx hx=>?_,hm⟩
 ·by_cases hxm:x∈more
  ·exact⟨k+1,hf x hxm,hm x hxm⟩
  ·have hxA:x∈A:=oc λhn=>hxm ((h2 x).2 ⟨hx,hn⟩);rw[hf' x hxm];exact h.is x hxA
 ·rw[hf' x λhxm=>hx ((h2 x).1 hxm).1];exact h.no x λhxA=>hx ((h1 x).2 (.inl hxA))
theorem Di.fin{k:Nat}{A:List aC}{f:aC->Option Nat}(h:Di nx s0 k A [] f)(x:aC)(d:Nat):f x=some d ↔ Gj nx s0 d x:=by
 constructor
 ·intro hx;by_cases hA:x∈A
  ·obtain⟨e,h1,h2⟩:=h.is x hA;rw[hx]at h1;cases h1;exact h2
  ·rw[h.no x hA]at hx;cases hx
 ·intro hd;have hA:x∈A:=(h.rd.still (bC:=-1) (by omega) x).2 (.inl ⟨by omega,d,hd.1⟩);obtain⟨e,h1,h2⟩:=h.is x hA;rw[h1,h2.uniq hd]
end
def dV(p:aC × Nat):V × V:=(iO p.1,.int .i64 (p.2:Int))
def lG(D:List (aC × Nat))(x:aC):Option Nat:=(D.find? λp=>decide (x=p.1)).map Prod.snd
theorem sD{D:List (aC × Nat)}{x:aC}:lG D x=none ↔ x ∉ D.map be:=by
 unfold lG;rw[Option.map_eq_none_iff,lj,cv];constructor
 ·rintro h ⟨p,hp,rfl⟩;exact h p hp (BY rfl)
 ·exact λh p hp e=>h ⟨p,hp,(er e).symm⟩
theorem Jh{D:List (aC × Nat)}{x:aC}(hx:x ∉ D.map be)(d:Nat)(y:aC):lG (D++[(x,d)]) y=if y=x then some d else lG D y:=by
 have h0:=sD.2 hx;unfold lG at h0 ⊢;rw[List.find?_append];by_cases hy:y=x
 ·subst hy;rw[Option.map_eq_none_iff]at h0;rw[h0,az rfl];simp only[mw,Option.none_or,qf,ck]
 ·rw[an hy];simp only[mw,List.find?_nil,AS hy,Option.or_none]
theorem Dm(hl:bv E)(x:aC):∀D:List (aC × Nat),jA (dG E 51) (iO x) (D.map dV)=some ((lG D x).map λ(d:Nat)=>V.int .i64 (d:Int))
 | []=>rfl
 |p::D=>by
  show (match dG E 51 (.agg [.bool x.1,.str x.2]) (.agg [.bool p.1.1,.str p.1.2]) with
   |some true=>some (some (V.int .i64 (p.2:Int)))
   |some false=>jA (dG E 51) (iO x) (D.map dV)
   |none=>none)=_
  unfold lG;rw[Lb.nQ hl,mw];by_cases h:x=p.1
  ·rw[BY (show ((x.1,x.2):aC)=(p.1.1,p.1.2) from h)];rfl
  ·rw[AS (show ¬ ((x.1,x.2):aC)=(p.1.1,p.1.2) from h)];exact Dm hl x D
theorem Mf(hl:bv E)(x:aC)(d:Nat):∀D:List (aC × Nat),x ∉ D.map be->kX (dG E 51) (iO x) (.int .i64 (d:Int)) (D.map dV)=some ((D++[(x,d)]).map dV)
 | [],_=>rfl
 |p::D,h=>by
  have hx:x≠p.1:=λe=>h (by rw[e];exact No ..)
  show (match dG E 51 (.agg [.bool x.1,.str x.2]) (.agg [.bool p.1.1,.str p.1.2]) with
   |some true=>some ((iO x,V.int .i64 (d:Int))::D.map dV)
   |some false=>(match kX (dG E 51) (iO x) (.int .i64 (d:Int)) (D.map dV) with
    |some r=>some (dV p::r)
    |none=>none)
   |none=>none)=_
  rw[Lb.nQ hl,AS (show ¬ ((x.1,x.2):aC)=(p.1.1,p.1.2) from hx),Mf hl x d D λhm=>h (ae _ hm)];rfl
theorem zY(h:bG E)(hl:bv E)(tr:Bo E){Z:Sg}{v:V}{D:List (aC × Nat)}(hv:bm Z v=some (D.map dV))(x:aC):lookup E Z 131 v (.agg [.bool x.1,.str x.2]) true=some (.fR [.int .i64 (((lG D x).getD 0:Nat):Int),.bool (lG D x).isSome]):=by
 have hk:=Lb.jU hl x.1 x.2;have hf:=Dm hl x D;unfold iO at hf;unfold pj;simp only[tr.qT,h.mP,hk,hv,hf,dm,ai,b9];cases lG D x <;> rfl
theorem QG(h:bG E)(hl:bv E)(tr:Bo E){Z:Sg}{v:V}{D:List (aC × Nat)}(hv:bm Z v=some (D.map dV)){x:aC}{d:Nat}(hd:lG D x=some d):lookup E Z 131 v (.agg [.bool x.1,.str x.2]) false=some (.int .i64 (d:Int)):=by
 have hk:=Lb.jU hl x.1 x.2;have hf:=Dm hl x D;rw[hd]at hf;unfold iO at hf;unfold pj;simp only[tr.qT,h.mP,hk,hv,hf,dm,ai,b9];rfl
theorem Qe(hl:bv E)(tr:Bo E){Z:Sg}{b:Nat}{D:List (aC × Nat)}(hb:Z[b]?=some (.map (D.map dV))){x:aC}(hx:x ∉ D.map be)(d:Nat):mapUpdate E Z 131 (.mp b) (.agg [.bool x.1,.str x.2]) (.int .i64 (d:Int))=some (Z.set b (.map ((D++[(x,d)]).map dV))):=by
 have hk:=Lb.jU hl x.1 x.2;have hp:=Mf hl x d D hx;unfold iO at hp;unfold Ax.mapUpdate;simp only[tr.qT,hk,hb,hp,fG,V.aZ,dm,j8,ai,b9,ck]
theorem S7{Z:Sg}{b:Nat}{g:Bool}{D:List (aC × Nat)}(hb:Z[b]?=some (.map (D.map dV))){n:Nat}:bA Z E.ty g (n+2) (.mp b)=some (.imp g (D.map dV)):=by
 rw[bA];simp only[hb];rw[Dq (k:=dV) λp _=>?_];have hp:(iO p.1).cells.all n7=true:=rfl
 show (if (iO p.1).cells.all n7=true then (match (match bA Z E.ty g (n+1) (.int .i64 (p.2:Int)) with
   |some v=>if cI g v then some v else no "snap: borrowed"
   |none=>none) with
   |some v=>some (iO p.1,v)
   |none=>none) else none)=_
 rw[az hp,jQ rfl];cases g <;> rfl
def Fi(D0 D:List (aC × Nat))(more:List aC)(k:Nat):Prop:=∀x,lG D x=if x∈more then some (k+1) else lG D0 x
theorem Fi.start(D0:List (aC × Nat))(k:Nat):Fi D0 D0 [] k:=λx=>by rw[an (by simp)]
theorem Fi.fresh{D0 D:List (aC × Nat)}{more:List aC}{k:Nat}(h:Fi D0 D more k){x:aC}(hx:x ∉ D.map be):Fi D0 (D++[(x,k+1)]) (more++[x]) k:=λy=>by
 rw[Jh hx];by_cases hy:y=x
 ·rw[az hy,az (by rw[hy];simp)]
 ·rw[an hy,h y];by_cases hm:y∈more
  ·rw[az hm,az (by simp[hm])]
  ·rw[an hm,an (by simp[hm,hy])]
theorem Ky{Y:Sg}{w:V}{l:List aC}{b:Nat}{es:List (V × V)}{y:O}(ow:aY cN 51 Y w l)(hb:Y[b]?=some (.map es)):aY cN 51 (Y.set b y) w l:=ow.keep λc o hc ho=>by
 rw[aa (λe=>?_)]
 ·exact ho
 ·subst e;exact BH ow (λu ex e=>by rw[hb]at e;cases e) hc
theorem Qw{Y τ':Sg}{w:V}{l:List aC}{b:Nat}{es:List (V × V)}(hb:Y[b]?=some (.map es))(ow:aY cN 51 Y w l)(hk:Sp Y τ' w):τ'[b]?=some (.map es):=hk _ _ hb (BH ow λu ex e=>by rw[hb]at e;cases e)
theorem Xz(h:bG E)(h':mL E)(hl:bv E)(q:uM E)(tr:Bo E){b k:Nat}{g:V}{rs:List aD}(hg:xD E rs g)(hf:Fits rs){D0 D:List (aC × Nat)}{more now:List aC}{P P':aC->Prop}{wn wm:V}{i:Nat}{y:aC}{Y:Sg}
  (hb:Y[b]?=some (.map (D.map dV)))(on:aY cN 51 Y wn now)(om:aY cN 51 Y wm more)(hne:∀c,aO wm=some c->aO wn≠some c)(hy:now[i]?=some y)(ri:Ri (fE rs) (c_ rs) (D0.map be) P (D.map be) more)(fi:Fi D0 D more k)(hy0:lG D0 y=some k)(hkb:k<=1000000)(hP:∀x,P' x ↔ P x\/x∈fE rs y)
  (F:FT)(g0:F.get 0=g)(g5:F.get 5=.mp b)(g11:F.get 11=wm)(g49:F.get 49=wn)(g51:F.get 51=.int .i64 (i:Int)){st:List iT}{Q:io->Fr->Sg->Prop}
  (hk:∀F' τ' wm' D' more',(∀k,k∈[0,5,49,50,51]->F'.get k=F.get k)->F'.get 11=wm'->τ'[b]?=some (.map (D'.map dV))->aY cN 51 τ' wn now->aY cN 51 τ' wm' more'->(∀c,aO wm'=some c->aO wn≠some c)->Ri (fE rs) (c_ rs) (D0.map be) P' (D'.map be) more'->Fi D0 D' more' k->M E st .normal ⟨85,F'⟩ τ' Q):Ax.R E (η [1,1,1,1,0,2,2,1,2,1,0,1,2,2,1,1,0,2] (aA cy).code) st ⟨85,F⟩ Y Q:=by
 obtain⟨c,o,u,cs,ex,e1,hc,hle,hrow⟩:=GN hl on hy;have hlen:=kP hf;have hyA:y∈D0.map be:=oc λhn=>by rw[sD.2 hn]at hy0;cases hy0
 have d21:=tr.UB;simp only[aA,cy,η,ay]at d21;simp only[aA,cy,KP,ι,Ξ,↓reduceIte,δ,ε,μ,reduceCtorEq,h.bU,η,g0,g49,g51,e1,hc,hle,hrow,row,aL,bP];refine aK (An h h' hl q hg hf y) ?_;rintro v σ' ⟨rfl,hv⟩;have hvi:=hv.KL.is;have la:=jM h hvi;have hadl:fE rs y ⊆ c_ rs:=λx hx=>CI y x hx;have hnl:(fE rs y).length<=2000:=e8 (eO (CJ rs y).nodup hadl) hlen;have hz1:(Y++[ζ 51 [.bool y.1,.str y.2] true])[Y.length]?=some (ζ 51 [.bool y.1,.str y.2] true):=aL;have hb1:(Y++[ζ 51 [.bool y.1,.str y.2] true])[b]?=some (.map (D.map dV)):=aI hb;have on1:=on.app [ζ 51 [.bool y.1,.str y.2] true];have om1:=om.app [ζ 51 [.bool y.1,.str y.2] true];have hmz:∀c,aO wm=some c->c≠Y.length:=λc hc e=>by have:=Qj om hc;omega
 generalize Y++[ζ 51 [.bool y.1,.str y.2] true]=τ1 at hz1 hb1 on1 om1 ⊢;generalize Y.length=z at hz1 hmz ⊢;simp only[KP,↓reduceIte,ε,la];generalize fE rs y=L at hvi hv la hnl hP hadl;refine aV (λj F2 τ2=>(∀k,k∈[0,5,49,50,51]->F2.get k=F.get k)/\F2.get 13=.ref z 0/\F2.get 57=v/\F2.get 58=.int .i64 (L.length:Int)/\F2.get 59=.int .i64 (j:Int)/\τ2[z]?=some (ζ 51 [.bool y.1,.str y.2] true)/\∃D more wm,F2.get 11=wm/\τ2[b]?=some (.map (D.map dV))/\aY cN 51 τ2 wn now/\aY cN 51 τ2 wm more/\(∀c,aO wm=some c->aO wn≠some c)/\(∀c,aO wm=some c->c≠z)/\Ri (fE rs) (c_ rs) (D0.map be) (λx=>P x\/x∈L.take j) (D.map be) more/\Fi D0 D more k) L.length ?_ ?_ L.length 0 _ _ (by omega) ⟨?_,(fZ (by simp+decide only[GS,aj]) ⟨hz1,D,more,wm,(by simp+decide only[GS,g11]),hb1,on1,om1,hne,hmz,ri.congr λx=>by simp,fi⟩)⟩
 ·clear hb1 on1 om1 hne hmz ri fi hz1 on om hb;rintro j F2 τ2 hj ⟨hF,g13,g57,g58,g59,hz,D,more,wm,g11,hb,on,om,hne,hmz,ri,fi⟩ next
  obtain⟨x,hx⟩:∃x,L[j]?=some x:=⟨_,AT hj⟩;obtain⟨gi,e1⟩:=t_ h hvi hx;have hlt:=dR hj;have hadd:=bW j (by omega);have f5:F2.get 5=.mp b:=(hF 5 (by simp)).trans g5;have hAl:=ri.le hlen;have hml:=ri.len;have hym:y ∉ more:=λe=>((ri.new y).1 e).2 hyA;have hyD:lG D y=some k:=by rw[fi y,an hym];exact hy0
  have hzb:z≠b:=λe=>by rw[e,hb]at hz;cases hz
  have lk:=λ(Z:Sg)(hσ:Z[b]?=some (.map (D.map dV)))=>zY (Z:=Z) (v:=.mp b) h hl tr (show bm Z (.mp b)=some (D.map dV) by unfold bm;simp only[hσ]) x;rw[aF];have hz2:(τ2++[ζ 51 [.bool x.1,.str x.2] true])[τ2.length]?=some (ζ 51 [.bool x.1,.str x.2] true):=aL;have hzz:(τ2++[ζ 51 [.bool x.1,.str x.2] true])[z]?=some (ζ 51 [.bool y.1,.str y.2] true):=aI hz;have hb2:(τ2++[ζ 51 [.bool x.1,.str x.2] true])[b]?=some (.map (D.map dV)):=aI hb;have on2:=on.app [ζ 51 [.bool x.1,.str x.2] true];have om2:=om.app [ζ 51 [.bool x.1,.str x.2] true];have hle2:τ2.length<=(τ2++[ζ 51 [.bool x.1,.str x.2] true]).length:=by rw[By];omega
  by_cases hxA:x∈D.map be
  ·have hxs:(lG D x).isSome=true:=by
    cases hd:lG D x with
    |none=>exact absurd hxA (sD.1 hd)
    |some d=>rfl
   have lk:=lk _ hb2;rw[hxs]at lk;simp only[KP,ι,Ξ,↓reduceIte,δ,ε,μ,h.bU,f5,g57,g58,g59,hlt,hadd,e1,lk,aL,bP];refine next _ _ ⟨?_,(fZ (by simp+decide only[GS,g13,g57,g58,aj]) ⟨hzz,D,more,wm,(by simp+decide only[GS,g11]),hb2,on2,om2,hne,hmz,ri.old hxA λy=>?_,fi⟩)⟩
   ·intro k hk;rw[<- hF k hk];simp only[IN,bz,ek]at hk;rcases hk with rfl | rfl | rfl | rfl | rfl <;> simp+decide only[GS]
   ·rw[or_assoc,iA hx]
  ·have hxs:(lG D x).isSome=false:=by rw[sD.2 hxA];rfl
   have lk:=lk _ hb2;rw[hxs]at lk;have lk2:=QG (Z:=τ2++[ζ 51 [.bool x.1,.str x.2] true]) (v:=.mp b) h hl tr (show bm _ (.mp b)=some (D.map dV) by unfold bm;simp only[hb2]) hyD;have hup:=Qe hl tr hb2 hxA (k+1);have hadk:=bW k (by omega);have hb3:((τ2++[ζ 51 [.bool x.1,.str x.2] true]).set b (.map ((D++[(x,k+1)]).map dV)))[b]?=some (.map ((D++[(x,k+1)]).map dV)):=br (AI.1 hb2).1;have on3:=Ky (y:=.map ((D++[(x,k+1)]).map dV)) on2 hb2;have om3:=Ky (y:=.map ((D++[(x,k+1)]).map dV)) om2 hb2;have hz3:((τ2++[ζ 51 [.bool x.1,.str x.2] true]).set b (.map ((D++[(x,k+1)]).map dV)))[z]?=some (ζ 51 [.bool y.1,.str y.2] true):=by rw[aa (kg hzb)];exact hzz
   have hy2b:τ2.length≠b:=λe=>by rw[e,hb2]at hz2;cases hz2
   have hz4:((τ2++[ζ 51 [.bool x.1,.str x.2] true]).set b (.map ((D++[(x,k+1)]).map dV)))[τ2.length]?=some (ζ 51 [.bool x.1,.str x.2] true):=by rw[aa (kg hy2b)];exact hz2
   have hle3:τ2.length<=((τ2++[ζ 51 [.bool x.1,.str x.2] true]).set b (.map ((D++[(x,k+1)]).map dV))).length:=by rw[dy];exact hle2
   have hset:∀{u:Sg},mapUpdate E (τ2++[ζ 51 [.bool x.1,.str x.2] true]) 131 (.mp b) (.agg [.bool x.1,.str x.2]) (.int .i64 ((k+1:Nat):Int))=some u ↔ (τ2++[ζ 51 [.bool x.1,.str x.2] true]).set b (.map ((D++[(x,k+1)]).map dV))=u:=by
    intro u;rw[hup,j7]
   generalize hτ3:(τ2++[ζ 51 [.bool x.1,.str x.2] true]).set b (.map ((D++[(x,k+1)]).map dV))=τ3 at *;obtain⟨w',τ5,ha5,ow5,HV,fr5⟩:=Aq (x:=x) (ex:=true) hl om3 (by omega);have hzlt:=(AI.1 hz3).1;simp only[KP,ι,Ξ,↓reduceIte,δ,ε,ω,μ,ap,h.fF,h.bU,f5,g11,g13,g57,g58,g59,hlt,hadd,hadk,e1,lk,lk2,hup,hzz,hz4,ha5,aL,bP,fM,aX d21,bS];refine next _ _ ⟨?_,(fZ (by simp+decide only[GS,g13,g57,g58,aj]) ⟨HV _ _ (aI hz3) (λe=>hmz _ e rfl),D++[(x,k+1)],more++[x],w',(by simp+decide only[GS]),Qw (aI hb3) (om3.app _) HV,Vk (on3.app _) (λc hc=>hne c hc) HV,ow5,λc hc=>?_,λc hc=>?_,?_,fi.fresh hxA⟩)⟩
   ·intro k hk;rw[<- hF k hk];simp only[IN,bz,ek]at hk;rcases hk with rfl | rfl | rfl | rfl | rfl <;> simp+decide only[GS]
   ·rcases fr5 c hc with hc | hc
    ·exact hne c hc
    ·exact λe=>by have:=Qj on3 e;omega
   ·rcases fr5 c hc with hc | hc
    ·exact hmz c hc
    ·omega
   ·rw[gj];exact ri.fresh hxA (hadl (ag hx)) λy=>by rw[or_assoc,iA hx]
 ·rintro F2 τ2 ⟨hF,g13,g57,g58,g59,hz,D,more,wm,g11,hb,on,om,hne,hmz,ri,fi⟩;have hlt:=dW (bt L.length);rw[ah (OF _)]at ri;rw[aF];simp only[KP,↓reduceIte,ε,g58,g59,hlt];refine hk _ _ wm D more ?_ (by simp+decide only[GS,g11]) hb on om hne (ri.congr hP) fi;intro k hk;rw[<- hF k hk];simp only[IN,bz,ek]at hk;rcases hk with rfl | rfl | rfl | rfl | rfl <;> simp+decide only[GS]
 ·intro k hk;simp only[IN,bz,ek]at hk;rcases hk with rfl | rfl | rfl | rfl | rfl <;> simp+decide only[GS]
theorem Us(h:bG E)(h':mL E)(hl:bv E)(q:uM E)(tr:Bo E){g:V}{rs:List aD}(hg:xD E rs g)(hf:Fits rs){b:Nat}{lv:V}{ls:List aC}(iv:IS cN lv ls)(hls:ls.length<=1000000){Y:Sg}(hb:Y[b]?=some (.map []))
  (F:FT)(g0:F.get 0=g)(g1:F.get 1=lv)(g5:F.get 5=.mp b)(g6:F.get 6=.aG){st:List iT}{Q:io->Fr->Sg->Prop}
  (hk:∀F' τ' wn D now,F'.get 0=g->F'.get 5=.mp b->F'.get 6=wn->τ'[b]?=some (.map (D.map dV))->(D.map be).Nodup->aY cN 51 τ' wn now->Sd rs ls (D.map be) now->(∀x,x∈D.map be->lG D x=some 0)->M E st .normal ⟨85,F'⟩ τ' Q):Ax.R E (η [1,1,1,0] (aA cy).code) st ⟨85,F⟩ Y Q:=by
 have la:=jM h iv;simp only[aA,cy,KP,↓reduceIte,ε,η,g1,la];refine aV (λi F2 τ2=>F2.get 0=g/\F2.get 5=.mp b/\F2.get 19=lv/\F2.get 20=.int .i64 (ls.length:Int)/\F2.get 21=.int .i64 (i:Int)/\∃D now wn,F2.get 6=wn/\τ2[b]?=some (.map (D.map dV))/\(D.map be).Nodup/\aY cN 51 τ2 wn now/\Sd rs (ls.take i) (D.map be) now/\∀x,x∈D.map be->lG D x=some 0) ls.length ?_ ?_ ls.length 0 _ _ (by omega) (kA (by simp+decide only[GS,g0,g5,aj]) ⟨[],[],.aG,(by simp+decide only[GS,g6]),hb,List.nodup_nil,.inl ⟨rfl,rfl⟩,⟨(λx=>by simp),(λx=>by simp),OF _⟩,λx hx=>by cases hx⟩)
 ·rintro j F2 τ2 hj ⟨g0,g5,g19,g20,g21,D,now,wn,g6,hb,hnd,on,sd,h0⟩ next
  obtain⟨x,hx⟩:∃x,ls[j]?=some x:=⟨_,AT hj⟩;obtain⟨gi,e1⟩:=t_ h iv hx;have hlt:=dR hj;have hadd:=bW j (by omega);have hAl:(D.map be).length<=2000:=e8 (eO hnd λy hy=>((sd.mem y).1 hy).2) (kP hf);have hnl:=sd.len;have kk:=λ(Y:Sg)=>dX λK=>Ht (Z:=Y) (K:=K) h h' hl q hg hf x;have hz2:(τ2++[ζ 51 [.bool x.1,.str x.2] true])[τ2.length]?=some (ζ 51 [.bool x.1,.str x.2] true):=aL;have hb2:(τ2++[ζ 51 [.bool x.1,.str x.2] true])[b]?=some (.map (D.map dV)):=aI hb;have on2:=on.app [ζ 51 [.bool x.1,.str x.2] true];have lk:=zY (Z:=τ2++[ζ 51 [.bool x.1,.str x.2] true]) (v:=.mp b) h hl tr (show bm _ (.mp b)=some (D.map dV) by unfold bm;simp only[hb2]) x;rw[aF];by_cases hxA:x∈D.map be
  ·have hxs:(lG D x).isSome=true:=by rw[h0 x hxA];rfl
   rw[hxs]at lk;simp only[KP,ι,Ξ,↓reduceIte,δ,ε,μ,h.bU,g5,g19,g20,g21,hlt,hadd,e1,lk,aL,bP];exact next _ _ (kA (by simp+decide only[GS,g0,g5,g19,g20,aj]) ⟨D,now,wn,(by simp+decide only[GS,g6]),hb2,hnd,on2,sd.old hx λ_=>hxA,h0⟩)
  ·have hxs:(lG D x).isSome=false:=by rw[sD.2 hxA];rfl
   rw[hxs]at lk;by_cases hxa:x∈c_ rs
   ·have hkd:=G5 hxa;generalize kindOf rs x=kd at kk hkd;have hkd:decide (kd=0)=false:=AS hkd;have hup:=Qe hl tr hb2 hxA 0;have hb3:((τ2++[ζ 51 [.bool x.1,.str x.2] true]).set b (.map ((D++[(x,0)]).map dV)))[b]?=some (.map ((D++[(x,0)]).map dV)):=br (AI.1 hb2).1;have on3:=Ky (y:=.map ((D++[(x,0)]).map dV)) on2 hb2;have hy2b:τ2.length≠b:=λe=>by rw[e,hb2]at hz2;cases hz2
    have hz4:((τ2++[ζ 51 [.bool x.1,.str x.2] true]).set b (.map ((D++[(x,0)]).map dV)))[τ2.length]?=some (ζ 51 [.bool x.1,.str x.2] true):=by rw[aa (kg hy2b)];exact hz2
    generalize hτ3:(τ2++[ζ 51 [.bool x.1,.str x.2] true]).set b (.map ((D++[(x,0)]).map dV))=τ3 at *;obtain⟨w',τ5,ha5,ow5,HV,-⟩:=Aq (x:=x) (ex:=true) hl on3 (by omega);rw[show (((0:Nat):Int))=0 from rfl]at hup;simp only[KP,ι,Ξ,↓reduceIte,δ,ε,ω,μ,ap,reduceCtorEq,h.fF,h.bU,g0,g5,g6,g19,g20,g21,hlt,hadd,e1,lk,kk,hkd,hup,hz4,ha5,aL,bP,fM];refine next _ _ (kA (by simp+decide only[GS,g0,g5,g19,g20,aj]) ⟨D++[(x,0)],now++[x],w',(by simp+decide only[GS]),Qw (aI hb3) (on3.app _) HV,?_,ow5,?_,λy hy=>?_⟩)
    ·rw[gj,jx];exact⟨hnd,List.pairwise_singleton ..,λa ha c hc e=>hxA (by have e2:c=x:=cj.1 hc;rw[<- e2,<- e];exact ha)⟩
    ·rw[gj];exact sd.fresh hx hxa
    ·rw[Jh hxA];by_cases hyx:y=x
     ·rw[az hyx]
     ·rw[an hyx];rw[gj,cq]at hy;exact h0 y (hy.resolve_right λhm=>hyx (cj.1 hm))
   ·have hkd:=DD hxa;rw[hkd]at kk;simp only[KP,ι,Ξ,↓reduceIte,δ,ε,μ,reduceCtorEq,h.bU,g0,g5,g19,g20,g21,hlt,hadd,e1,lk,kk,aL,bP];exact next _ _ (kA (by simp+decide only[GS,g0,g5,g19,g20,aj]) ⟨D,now,wn,(by simp+decide only[GS,g6]),hb2,hnd,on2,sd.old hx λe=>absurd e hxa,h0⟩)
 ·rintro F2 τ2 ⟨g0,g5,g19,g20,g21,D,now,wn,g6,hb,hnd,on,sd,h0⟩;have hlt:=dW (bt ls.length);rw[ah (OF _)]at sd;rw[aF];simp only[KP,↓reduceIte,ε,g20,g21,hlt];exact hk _ _ wn D now (by simp+decide only[GS,g0]) (by simp+decide only[GS,g5]) (by simp+decide only[GS,g6]) hb hnd on sd h0
theorem Di.le{nx:aC->List aC}{s0:aC->Prop}{k M:Nat}{A now:List aC}{f:aC->Option Nat}(h:Di nx s0 k A now f)(hk:k<=M)(x:aC)(d:Nat)(hd:f x=some d):d<=M:=by
 by_cases hA:x∈A
 ·obtain⟨e,h1,h2⟩:=h.is x hA;rw[hd]at h1;cases h1;have hr:=(h.rd.all x).1 hA;exact oz λhlt=>h2.2 k (by omega) hr
 ·rw[h.no x hA]at hd;cases hd
theorem Oi(h:bG E)(h':mL E)(hl:bv E)(q:uM E)(tr:Bo E){b:Nat}{g:V}{rs:List aD}(hg:xD E rs g)(hf:Fits rs){s0:aC->Prop}{D:List (aC × Nat)}{now:List aC}{wn:V}{Y:Sg}(hb:Y[b]?=some (.map (D.map dV)))(hnd:(D.map be).Nodup)(on:aY cN 51 Y wn now)(di:Di (fE rs) s0 0 (D.map be) now (lG D))(hsub:∀x,x∈D.map be->x∈c_ rs)(hnlen:now.length<=(D.map be).length)
  (F:FT)(g0:F.get 0=g)(g5:F.get 5=.mp b)(g6:F.get 6=wn){st:List iT}{Q:io->Fr->Sg->Prop}
  (hk:∀F' τ' D',F'.get 5=.mp b->τ'[b]?=some (.map (D'.map dV))->(∀x d,lG D' x=some d ↔ Gj (fE rs) s0 d x)->(∀x d,lG D' x=some d->d<=2001)->M E st .normal ⟨85,F'⟩ τ' Q):Ax.R E (η [1,1,1,1,0] (aA cy).code) st ⟨85,F⟩ Y Q:=by
 have hlen:=kP hf;have one:=λ{D0 D k more now P P' wn wm i y Y} hb on om hne hy ri fi hy0 hkb hP F g0 g5 g11 g49 g51 st Q hk=>Xz (b:=b) (k:=k) (D0:=D0) (D:=D) (more:=more) (now:=now) (P:=P) (P':=P') (wn:=wn) (wm:=wm) (i:=i) (y:=y) (Y:=Y) h h' hl q tr hg hf hb on om hne hy ri fi hy0 hkb hP F g0 g5 g11 g49 g51 (st:=st) (Q:=Q) hk;rw[show (η [1,1,1,1,0] (aA cy).code)=.block 2 (.loop (.seq (η [1,1,1,1,0,2,2,0] (aA cy).code) (.block 3 (.seq (η [1,1,1,1,0,2,2,1,2,0] (aA cy).code) (.seq (.seq (η [1,1,1,1,0,2,2,1,2,1,0,0] (aA cy).code) (.block 4 (.loop (.seq (η [1,1,1,1,0,2,2,1,2,1,0,1,2,2,0] (aA cy).code) (.seq (η [1,1,1,1,0,2,2,1,2,1,0,1,2,2,1,0] (aA cy).code) (.seq (.block 5 (η [1,1,1,1,0,2,2,1,2,1,0,1,2,2,1,1,0,2] (aA cy).code)) (η [1,1,1,1,0,2,2,1,2,1,0,1,2,2,1,1,1] (aA cy).code))))))) (η [1,1,1,1,0,2,2,1,2,1,1] (aA cy).code)))))) from rfl];generalize η [1,1,1,1,0,2,2,1,2,1,0,1,2,2,1,1,0,2] (aA cy).code=B at one ⊢;simp only[aA,cy,KP,η];refine Mm (λn F Y=>∃(k:Nat) (D:List (aC × Nat)) (now:List aC) (wn:V),F.get 0=g/\F.get 5=.mp b/\F.get 6=wn/\Y[b]?=some (.map (D.map dV))/\(D.map be).Nodup/\aY cN 51 Y wn now/\Di (fE rs) s0 k (D.map be) now (lG D)/\(∀x,x∈D.map be->x∈c_ rs)/\now.length<=(D.map be).length/\(k<=(D.map be).length+1/\(now≠[]->k<=(D.map be).length))/\((now=[]/\n=2*(2001-(D.map be).length))\/(now≠[]/\n=2*(2001-(D.map be).length)+1))) ?_ (2*(2001-(D.map be).length)+(if now=[] then 0 else 1)) _ _ ⟨0,D,now,wn,(by simp+decide only[g0]),(by simp+decide only[g5]),(by simp+decide only[g6]),hb,hnd,on,di,hsub,hnlen,⟨by omega,λ_=>by omega⟩,?_⟩
 ·clear hb hnd on di hsub hnlen g0 g5 g6;rintro n F Y ⟨k,D,now,wn,g0,g5,g6,hb,hnd,on,di,hsub,hnlen,hkl,hn⟩ next
  have hAl:(D.map be).length<=2000:=e8 (eO hnd hsub) hlen;have ln:=lV hl.fF rfl on.ls;rw[aF];by_cases h0:now=[]
  ·subst h0;rw[aq]at ln;simp only[KP,↓reduceIte,ε,dv,g6,ln];exact hk _ _ D (by simp+decide only[GS,g5]) hb di.fin (di.le (by omega))
  have hgt:decide ((0:Int)<(now.length:Int))=true:=BY (by have:=ej.2 h0;omega);simp only[KP,↓reduceIte,δ,ε,g6,ln,hgt];refine aV (λi F2 τ2=>F2.get 0=g/\F2.get 5=.mp b/\F2.get 49=wn/\F2.get 50=.int .i64 (now.length:Int)/\F2.get 51=.int .i64 (i:Int)/\∃D' more wm,F2.get 11=wm/\τ2[b]?=some (.map (D'.map dV))/\aY cN 51 τ2 wn now/\aY cN 51 τ2 wm more/\(∀c,aO wm=some c->aO wn≠some c)/\Ri (fE rs) (c_ rs) (D.map be) (λx=>∃y∈now.take i,x∈fE rs y) (D'.map be) more/\Fi D D' more k) now.length ?_ ?_ now.length 0 _ _ (by omega) (kA (by simp+decide only[GS,g0,g5,aj]) ⟨D,[],.aG,(by simp+decide only[GS]),hb,on,.inl ⟨rfl,rfl⟩,(λc hc=>by cases hc),⟨λx=>by simp,(λx=>by simp),hsub,gv _,hnd,OF _,λe=>absurd rfl e⟩,Fi.start _ _⟩)
  ·clear hb on g0 g5;rintro i F2 τ2 hi ⟨g0,g5,g49,g50,g51,D',more,wm,g11,hb,on,om,hne,ri,fi⟩ next2;obtain⟨y,hy⟩:∃y,now[i]?=some y:=⟨_,AT hi⟩;have hlt:=dR hi;have hadd:=bW i (by omega);have hyn:=ag hy
   have hy0:lG D y=some k:=by
    obtain⟨d,h1,h2⟩:=di.is y (di.rd.sub y hyn);rw[h1,h2.uniq (di.last y hyn)]
   rw[aF];simp only[KP,↓reduceIte,ε,g50,g51,hlt];refine one hb on om hne hy ri fi hy0 (by omega) (P':=λx=>∃y∈now.take (i+1),x∈fE rs y) (λx=>?_) _ ?_ ?_ ?_ ?_ ?_ _ _ (λF3 τ3 wm' D3 more' hF g11' hb' on' om' hne' ri' fi'=>?_)
   ·constructor
    ·rintro⟨z,hz,hx⟩;rcases (iA hy z).1 hz with h1 | rfl
     ·exact .inl ⟨z,h1,hx⟩
     ·exact .inr hx
    ·rintro (⟨z,hz,hx⟩ | hx)
     ·exact⟨z,(iA hy z).2 (.inl hz),hx⟩
     ·exact⟨y,(iA hy y).2 (.inr rfl),hx⟩
   ·simp+decide only[GS,g0]
   ·simp+decide only[GS,g5]
   ·simp+decide only[GS,g11]
   ·simp+decide only[GS,g49]
   ·simp+decide only[GS,g51]
   have q0:F3.get 0=g:=(hF 0 (by simp)).trans (by simp+decide only[GS,g0]);have q5:F3.get 5=.mp b:=(hF 5 (by simp)).trans (by simp+decide only[GS,g5]);have q49:F3.get 49=wn:=(hF 49 (by simp)).trans (by simp+decide only[GS,g49]);have Vj:F3.get 50=.int .i64 (now.length:Int):=(hF 50 (by simp)).trans (by simp+decide only[GS,g50]);have q51:F3.get 51=.int .i64 (i:Int):=(hF 51 (by simp)).trans (by simp+decide only[GS,g51]);simp only[KP,↓reduceIte,ε,q51,hadd];exact next2 _ _ (kA (by simp+decide only[GS,q0,q5,q49,Vj,aj]) ⟨D3,more',wm',(by simp+decide only[GS,g11']),hb',on',om',hne',ri',fi'⟩)
  ·clear hb on g0 g5;rintro F2 τ2 ⟨g0,g5,g49,g50,g51,D',more,wm,g11,hb,on,om,hne,ri,fi⟩;have hlt:=dW (bt now.length);rw[ah (OF _)]at ri;have hA'l:=ri.le hlen;rw[aF];simp only[KP,↓reduceIte,δ,ε,g11,g50,g51,hlt];have hup:=ri.up;refine next (2*(2001-(D'.map be).length)+(if more=[] then 0 else 1)) _ _ ?_ ⟨k+1,D',more,wm,(fK (by simp+decide only[GS,g0,g5,aj]) ⟨hb,ri.nd,om,di.next ri.mem ri.new (λx hx=>by rw[fi x,az hx]) (λx hx=>by rw[fi x,an hx]),ri.sub,ri.len,?_,?_⟩)⟩
   ·rcases hn with⟨h1,-⟩ | ⟨-,rfl⟩
    ·exact absurd h1 h0
    ·by_cases hm:more=[]
     ·rw[az hm];omega
     ·rw[an hm];have:=hup.2 hm;omega
   ·have:=hkl.2 h0;exact⟨by omega,λhm=>by have:=hup.2 hm;omega⟩
   ·by_cases hm:more=[]
    ·exact .inl ⟨hm,by rw[az hm];rfl⟩
    ·exact .inr ⟨hm,by rw[an hm]⟩
 ·by_cases h0:now=[]
  ·exact .inl ⟨h0,by rw[az h0];rfl⟩
  ·exact .inr ⟨h0,by rw[an h0]⟩
structure Ev (rs:List aD) (ls:List aC) (D:List (aC × Nat)):Prop where
 is:∀x d,lG D x=some d ↔ Gj (fE rs) (λx=>x∈ls/\x∈c_ rs) d x
 le:∀x d,lG D x=some d->d<=2001
def adC(rs:List aD)(ls:List aC)(v:V):Prop:=∃D,v=.imp false (D.map dV)/\Ev rs ls D
theorem BZ(h:bG E)(h':mL E)(hl:bv E)(q:uM E)(tr:Bo E){g:V}{rs:List aD}(hg:xD E rs g)(hf:Fits rs){a:V}{ls:List aC}(ha:LS cN 51 Z a ls)(hls:ls.length<=1000000):aB E 101 [g,a] Z λv σ'=>σ'=Z/\adC rs ls v:=by
 obtain⟨a',ea,ia⟩:=iJ h ha;have e1:=bZ (Z:=Z) (ty:=E.ty) hg.bE (bJ hg.bE);rw[aH tr.abZ tr.Zp tr.acY tr.aaY (args':=[g,a']) (by simp only[aW,e1,ea]),aU (by kernel_rfl)];have kseed:=λ{Y} hb F g0 g1 g5 g6 st Q hk=>Us (b:=0) (Y:=Y) h h' hl q tr hg hf ia hls hb F g0 g1 g5 g6 (st:=st) (Q:=Q) hk;have krounds:=λ{D now wn Y} hb hnd on di hsub hnlen F g0 g5 g6 st Q hk=>Oi (b:=0) (s0:=λx=>x∈ls/\x∈c_ rs) (D:=D) (now:=now) (wn:=wn) (Y:=Y) h h' hl q tr hg hf hb hnd on di hsub hnlen F g0 g5 g6 (st:=st) (Q:=Q) hk;rw[show (aA cy).code=.seq (η [0] (aA cy).code) (.seq (η [1,0] (aA cy).code) (.seq (η [1,1,0] (aA cy).code) (.seq (η [1,1,1,0] (aA cy).code) (.seq (η [1,1,1,1,0] (aA cy).code) (η [1,1,1,1,1] (aA cy).code))))) from rfl];generalize η [1,1,1,0] (aA cy).code=SS at kseed ⊢;generalize η [1,1,1,1,0] (aA cy).code=BB at krounds ⊢;simp only[aA,cy,KP,↓reduceIte,ε,μ,η];refine kseed rfl _ ?_ ?_ ?_ ?_ _ _ (λF1 τ1 wn D now q0 q5 q6 hb hnd on sd h0=>?_)
 ·simp+decide only[GS]
 ·simp+decide only[GS]
 ·simp+decide only[GS]
 ·simp+decide only[GS]
 rw[NS];simp only[KP];refine krounds hb hnd on (Di.start sd.mem sd.nw h0 λx hx=>sD.2 hx) (λx hx=>((sd.mem x).1 hx).2) sd.len _ q0 q5 q6 _ _ (λF2 τ2 D2 p5 hb2 hd hd2=>?_)
 have es:cQ τ2 E.ty false (.mp 0)=some (.imp false (D2.map dV)):=by
  show aR.one τ2 E.ty false (.mp 0)=_;unfold aR.one;rw[show dN=10+2 from rfl,S7 hb2];rfl
 rw[NS];simp only[KP,↓reduceIte,ε,p5,es];exact⟨D2,rfl,hd,hd2⟩
theorem U1(h:bG E)(hl:bv E)(tr:Bo E){a:V}{l:List aC}{k:Nat}{caps:List V}{P:aC->Bool}(ha:LS cN 51 Z a l)(hsm:l.length<=4294967296)(hP:∀y:aC,y∈l->aB E k ([.agg [.bool y.1,.str y.2]]++caps) [] λu Y=>Y=[]/\u=.bool (P y)){fv:V}(ef:aR Z E.ty true fv=some (.fn k [] caps)):aB E 102 [a,fv] Z K=K (.int .i64 (idx (bR P l))) Z:=by
 refine aB.of ?_;obtain⟨a',ea,ia⟩:=iJ h ha;rw[aH tr.Rj tr.PI tr.Ry tr.Qu (args':=[a',.fn k [] caps]) (by simp only[aW,ea,ef]),aU (by kernel_rfl)];have la:=jM h ia;simp only[aA,Tryz.f102,KP,↓reduceIte,ε,μ,reduceCtorEq,φ,la];refine aV (λi F Y=>Y=[]/\F.get 0=a'/\F.get 1=.fn k [] caps/\F.get 8=.int .i64 (i:Int)/\F.get 7=.int .i64 (l.length:Int)/\∀j y,j<i->l[j]?=some y->P y=false) l.length ?_ ?_ l.length 0 _ _ (by omega) ⟨rfl,(fZ (by simp+decide only[GS,aj]) (λj y hj=>by omega))⟩
 ·rintro i F Y hi ⟨rfl,g0,g1,g8,g7,hp⟩ next
  obtain⟨x,hx⟩:∃x,l[i]?=some x:=⟨_,AT hi⟩;obtain⟨g,e1⟩:=t_ h ia hx;have hlt:=dR hi;have hadd:=bW i (by omega);rw[aF];simp only[KP,ι,↓reduceIte,δ,ε,μ,reduceCtorEq,φ,h.bU,g0,g1,g7,g8,hlt,e1];refine aK (hP x (ag hx)) ?_;rintro u Y ⟨rfl,rfl⟩;by_cases hxs:P x=true
  ·simp only[KP,↓reduceIte,δ,ε,φ,hxs];rw[gC (i:=i) (x:=x) hp hx hxs];exact rfl
  ·have hxs:P x=false:=by simpa using hxs
   simp only[KP,↓reduceIte,δ,ε,φ,g8,hxs,hadd];refine next _ _ ⟨rfl,(fZ (by simp+decide only[GS,g0,g1,g7,aj]) (λj y hj hy=>?_))⟩
   rcases cr j i with g | g
   ·exact hp j y g hy
   ·obtain rfl:j=i:=by omega
    rw[hx]at hy;cases hy;exact hxs
 ·rintro F Y ⟨rfl,g0,g1,g8,g7,hp⟩;have hlt:=dW (bt l.length);rw[aF];simp only[KP,↓reduceIte,ε,φ,g7,g8,hlt]
  rw[gD λx hx=>by
   obtain⟨j,hj,e⟩:=fm hx;exact hp j x hj (by rw[AT hj,e])]
  exact rfl
def EI(D:List (aC × Nat))(n:Int)(x:aC):Bool:=match lG D x with
 |some d=>decide ((d:Int)=n)
 |none=>false
theorem b_S1(h:bG E)(hl:bv E)(tr:Bo E){D:List (aC × Nat)}{n:Int}{g g2 g3:Bool}{x:aC}(hn:wr .i64 (n-1)=n-1):aB E 103 [.agg [.bool x.1,.str x.2],.cR g [.imp g2 (D.map dV)],.cR g3 [.int .i64 n]] [] K=K (.bool (EI D (n-1) x)) []:=by
 refine aB.of ?_;have hi:ge (.cR g [.imp g2 (D.map dV)])=true:=rfl;have hi2:ge (.cR g3 [.int .i64 n])=true:=rfl;have ew:=bZ (Z:=[]) (ty:=E.ty) hi (bJ hi);have ew2:=bZ (Z:=[]) (ty:=E.ty) hi2 (bJ hi2);have es:=HZ (E:=E) [] x;rw[aH tr.abY tr.Zo tr.acX tr.aaX (args':=[.agg [.bool x.1,.str x.2],.cR g [.imp g2 (D.map dV)],.cR g3 [.int .i64 n]]) (by simp only[aW,es,ew,ew2]),aU (by kernel_rfl)];have lk:=λ(Y:Sg)=>zY (Z:=Y) (v:=.imp g2 (D.map dV)) h hl tr rfl x;unfold EI;cases hd:lG D x with
 |none=>
  rw[hd]at lk;simp only[aA,Tryz.f103,KP,ι,↓reduceIte,δ,ε,μ,reduceCtorEq,h.bU,tr.qT,lk];exact rfl
 |some d=>
  rw[hd]at lk;simp only[aA,Tryz.f103,KP,ι,↓reduceIte,δ,ε,μ,reduceCtorEq,h.mP,h.bU,tr.qT,lk,hn];exact rfl
def Sr(D:List (aC × Nat))(S:List aC)(i:Nat)(left:Int)(p:List aC):Prop:=
 (left = -1/\p=[]/\∀(j:Nat)(x:aC),j<i->S[j]?=some x->lG D x=none) \/
 ∃(j:Nat) (x0:aC) (d:Nat),j<i/\S[j]?=some x0/\lG D x0=some d/\left=(d:Int)/\p=[x0]/\∀(j':Nat)(x:aC)(e:Nat),j'<i->S[j']?=some x->lG D x=some e->d<=e/\(j'<j->d<e)
theorem Sr.none{D:List (aC × Nat)}{S:List aC}{i:Nat}{left:Int}{p:List aC}(h:Sr D S i left p){x:aC}(hx:S[i]?=some x)(hd:lG D x=none):Sr D S (i+1) left p:=by
 rcases h with⟨h1,h2,h3⟩ | ⟨j,x0,d,h1,h2,h3,h4,h5,h6⟩
 ·refine .inl ⟨h1,h2,λj y hj hy=>?_⟩;rcases cr j i with g | g
  ·exact h3 j y g hy
  ·obtain rfl:j=i:=by omega
   rw[hx]at hy;cases hy;exact hd
 ·refine .inr ⟨j,x0,d,by omega,h2,h3,h4,h5,λj' y e hj' hy he=>?_⟩;rcases cr j' i with g | g
  ·exact h6 j' y e g hy he
  ·obtain rfl:j'=i:=by omega
   rw[hx]at hy;cases hy;rw[hd]at he;cases he
theorem Sr.take{D:List (aC × Nat)}{S:List aC}{i:Nat}{left:Int}{p:List aC}(h:Sr D S i left p){x:aC}{d:Nat}(hx:S[i]?=some x)(hd:lG D x=some d)(hlt:left<0\/(d:Int)<left):Sr D S (i+1) (d:Int) [x]:=by
 refine .inr ⟨i,x,d,by omega,hx,hd,rfl,rfl,λj' y e hj' hy he=>?_⟩;rcases cr j' i with g | g
 ·rcases h with⟨h1,h2,h3⟩ | ⟨j,x0,d0,h1,h2,h3,h4,h5,h6⟩
  ·rw[h3 j' y g hy]at he;cases he
  ·have:=(h6 j' y e g hy he).1;exact⟨by omega,λ_=>by omega⟩
 ·obtain rfl:j'=i:=by omega
  rw[hx]at hy;cases hy;rw[hd]at he;cases he;exact⟨OF _,λhh=>absurd hh (bt _)⟩
theorem Sr.skip{D:List (aC × Nat)}{S:List aC}{i:Nat}{left:Int}{p:List aC}(h:Sr D S i left p){x:aC}{d:Nat}(hx:S[i]?=some x)(hd:lG D x=some d)(hlt:0<=left)(hge:left<=(d:Int)):Sr D S (i+1) left p:=by
 rcases h with⟨h1,h2,h3⟩ | ⟨j,x0,d0,h1,h2,h3,h4,h5,h6⟩
 ·omega
 ·refine .inr ⟨j,x0,d0,by omega,h2,h3,h4,h5,λj' y e hj' hy he=>?_⟩;rcases cr j' i with g | g
  ·exact h6 j' y e g hy he
  ·obtain rfl:j'=i:=by omega
   rw[hx]at hy;cases hy;rw[hd]at he;cases he;exact⟨by omega,λhh=>by omega⟩
theorem zN{Y:Sg}{w:V}{l:List aC}{b u:Nat}{cs:List V}{ex:Bool}{y:O}(ow:aY cN 51 Y w l)(hb:Y[b]?=some (.cells u cs ex))(hu:u≠51):aY cN 51 (Y.set b y) w l:=ow.keep λc o hc ho=>by
 rw[aa (λe=>?_)]
 ·exact ho
 ·subst e;exact BH ow (λu' ex' e=>by rw[hb]at e;cases e;exact hu rfl) hc
theorem S4(h:bG E)(h':mL E)(hl:bv E)(q:uM E)(tr:Bo E){D:List (aC × Nat)}{Sx:List aC}{r g:V}{Y:Sg}(hlen:Sx.length<=1000000)(on:aY cN 51 Y r Sx)(b0:Y[0]?=some (.cells 131 [.imp false (D.map dV)] true))(b1:Y[1]?=some (.cells 3 [.int .i64 (-1)] true))
  (F:FT)(g0:F.get 0=g)(g7:F.get 7=.ref 0 0)(g8:F.get 8=.aG)(g9:F.get 9=.ref 1 0)(g23:F.get 23=r)(g24:F.get 24=.int .i64 (Sx.length:Int))(g25:F.get 25=.int .i64 0){st:List iT}{Q:io->Fr->Sg->Prop}
  (hk:∀F' τ' w p left,F'.get 0=g->F'.get 7=.ref 0 0->F'.get 8=w->F'.get 9=.ref 1 0->aY cN 51 τ' w p->τ'[0]?=some (.cells 131 [.imp false (D.map dV)] true)->τ'[1]?=some (.cells 3 [.int .i64 left] true)->Sr D Sx Sx.length left p->M E st .normal ⟨72,F'⟩ τ' Q):Ax.R E (η [1,1,1,1,0,1] (aA hO).code) st ⟨72,F⟩ Y Q:=by
 simp only[aA,hO,KP,φ,η];refine aV (λi F Y=>F.get 0=g/\F.get 7=.ref 0 0/\F.get 9=.ref 1 0/\F.get 23=r/\F.get 24=.int .i64 (Sx.length:Int)/\F.get 25=.int .i64 (i:Int)/\aY cN 51 Y r Sx/\Y[0]?=some (.cells 131 [.imp false (D.map dV)] true)/\∃w p left,F.get 8=w/\aY cN 51 Y w p/\Y[1]?=some (.cells 3 [.int .i64 left] true)/\Sr D Sx i left p) Sx.length ?_ ?_ Sx.length 0 _ _ (by omega) ⟨(by simp+decide only[g0]),(by simp+decide only[g7]),(by simp+decide only[g9]),(by simp+decide only[g23]),(by simp+decide only[g24]),(by simp+decide only[GS,g25]),on,b0,.aG,[],-1,(by simp+decide only[g8]),.inl ⟨rfl,rfl⟩,b1,.inl ⟨rfl,rfl,λj x hj=>by omega⟩⟩
 ·clear on b0 b1 g0 g7 g8 g9 g23 g24 g25;rintro i F Y hi ⟨g0,g7,g9,g23,g24,g25,on,b0,w,p,left,g8,ow,b1,bs⟩ next
  obtain⟨x,hx⟩:∃x,Sx[i]?=some x:=⟨_,AT hi⟩;obtain⟨c,o,u,cs,ex,e1,hc,hle,hrow⟩:=GN hl on hx;have hlt:=dR hi;have hadd:=bW i (by omega);have lk:=λ(Y:Sg)=>zY (Z:=Y) (v:=.imp false (D.map dV)) h hl tr rfl x;have b0':(Y++[ζ 51 [.bool x.1,.str x.2] true])[0]?=some (.cells 131 [.imp false (D.map dV)] true):=aI b0;have b1':(Y++[ζ 51 [.bool x.1,.str x.2] true])[1]?=some (.cells 3 [.int .i64 left] true):=aI b1;have on1:=on.app [ζ 51 [.bool x.1,.str x.2] true];have ow1:=ow.app [ζ 51 [.bool x.1,.str x.2] true];have b1'':(Y++[ζ 51 [.bool x.1,.str x.2] true]++[ζ 51 [.bool x.1,.str x.2] true])[1]?=some (.cells 3 [.int .i64 left] true):=aI b1';have b0'':(Y++[ζ 51 [.bool x.1,.str x.2] true]++[ζ 51 [.bool x.1,.str x.2] true])[0]?=some (.cells 131 [.imp false (D.map dV)] true):=aI b0';have on2:=on1.app [ζ 51 [.bool x.1,.str x.2] true];have s2:(Y++[ζ 51 [.bool x.1,.str x.2] true]++[ζ 51 [.bool x.1,.str x.2] true])[(Y++[ζ 51 [.bool x.1,.str x.2] true]).length]?=some (ζ 51 [.bool x.1,.str x.2] true):=aL;have s1:(Y++[ζ 51 [.bool x.1,.str x.2] true])[Y.length]?=some (ζ 51 [.bool x.1,.str x.2] true):=aL;rw[aF];cases hd:lG D x with
  |none=>
   rw[hd]at lk;simp only[KP,ι,Ξ,↓reduceIte,δ,ε,μ,reduceCtorEq,h.bU,tr.qT,g7,g23,g24,g25,hlt,hadd,e1,hc,hle,hrow,row,lk,b0',aL,bP];exact next _ _ (sF (by simp+decide only[GS,g0,g7,g9,g23,g24,aj]) ⟨on1,b0',w,p,left,(by simp+decide only[GS,g8]),ow1,b1',bs.none hx hd⟩)
  |some d=>
   rw[hd]at lk;by_cases hl0:left<0
   ·have q0:=BY hl0;simp only[KP,ι,Ξ,↓reduceIte,δ,ε,ω,μ,ap,h.mP,h.fF,h.bU,tr.qT,g7,g9,g23,g24,g25,hlt,hadd,e1,hc,hle,hrow,row,lk,b0',b1',b1'',q0,aL,bP,fM];refine next _ _ (sF (by simp+decide only[GS,g0,g7,g9,g23,g24,aj]) ⟨zN on2 b1'' (by decide),(by rw[aa (by decide)];exact b0''),.sl (Y++[ζ 51 [.bool x.1,.str x.2] true]).length 0 1 none,[x],(d:Int),(by simp+decide only[GS]),zN (.inr ⟨_,[row x],true,rfl,s2,.one rfl⟩) b1'' (by decide),(by rw[br (AI.1 b1'').1]),bs.take hx hd (.inl hl0)⟩)
   ·have q0:=AS hl0;by_cases hdl:(d:Int)<left
    ·have q1:=BY hdl;simp only[KP,ι,Ξ,↓reduceIte,δ,ε,ω,μ,ap,h.mP,h.fF,h.bU,tr.qT,g7,g9,g23,g24,g25,hlt,hadd,e1,hc,hle,hrow,row,lk,b0',b1',b1'',q0,q1,aL,bP,fM];refine next _ _ (sF (by simp+decide only[GS,g0,g7,g9,g23,g24,aj]) ⟨zN on2 b1'' (by decide),(by rw[aa (by decide)];exact b0''),.sl (Y++[ζ 51 [.bool x.1,.str x.2] true]).length 0 1 none,[x],(d:Int),(by simp+decide only[GS]),zN (.inr ⟨_,[row x],true,rfl,s2,.one rfl⟩) b1'' (by decide),(by rw[br (AI.1 b1'').1]),bs.take hx hd (.inr hdl)⟩)
    ·have q1:=AS hdl;simp only[KP,ι,Ξ,↓reduceIte,δ,ε,μ,h.mP,h.bU,tr.qT,g7,g9,g23,g24,g25,hlt,hadd,e1,hc,hle,hrow,row,lk,b0',b1',q0,q1,aL,bP];exact next _ _ (sF (by simp+decide only[GS,g0,g7,g9,g23,g24,aj]) ⟨on1,b0',w,p,left,(by simp+decide only[GS,g8]),ow1,b1',bs.skip hx hd (by omega) (by omega)⟩)
 ·rintro F Y ⟨g0,g7,g9,g23,g24,g25,on,b0,w,p,left,g8,ow,b1,bs⟩;have hlt:=dW (bt Sx.length);rw[aF];simp only[KP,↓reduceIte,ε,g24,g25,hlt];exact hk _ _ w p left (by simp+decide only[GS,g0]) (by simp+decide only[GS,g7]) (by simp+decide only[GS,g8]) (by simp+decide only[GS,g9]) ow b0 b1 bs
theorem Ft{rs:List aD}(x y:aC):x∈bH rs y ↔ y∈fE rs x:=by rw[nN,wM]
structure Wy (D:List (aC × Nat)) (rs:List aD) (d:Nat) (p:List aC):Prop where
 bC:∀(i:Nat)(y:aC),p[i]?=some y->i<=d/\lG D y=some (d-i)
 nx:∀(i:Nat)(y x:aC),p[i]?=some y->p[i+1]?=some x->∃m,bR (EI D ((d:Int)-(i:Int)-1)) (bH rs y)=some m/\(bH rs y)[m]?=some x
theorem I0{D:List (aC × Nat)}{n:Int}{x:aC}:EI D n x=true ↔ ∃d:Nat,lG D x=some d/\(d:Int)=n:=by
 unfold EI;cases lG D x with
 |none=>simp
 |some d=>simp
theorem Wy.snoc{D:List (aC × Nat)}{rs:List aD}{d i m:Nat}{p:List aC}{y x:aC}(h:Wy D rs d p)(hp:p.length=i+1)(hid:i<d)(hy:p[i]?=some y)(hm:bR (EI D ((d:Int)-(i:Int)-1)) (bH rs y)=some m)(hx:(bH rs y)[m]?=some x):Wy D rs d (p++[x]):=by
 have hxa:EI D ((d:Int)-(i:Int)-1) x=true:=by
  obtain⟨x',h1,h2⟩:=gM hm;rw[hx]at h1;cases h1;exact h2
 refine⟨λj z hz=>?_,λj z u hz hu=>?_⟩
 ·rcases cr j p.length with g | g
  ·rw[au g]at hz;exact h.bC j z hz
  ·rw[bg g]at hz;obtain⟨h0,e⟩:=AI.1 hz;have hj:j=i+1:=by rw[dj]at h0;omega
   subst hj;have hzx:z=x:=by rw[<- e];simp[hp]
   subst hzx;obtain⟨e',h1,h2⟩:=I0.1 hxa;exact⟨by omega,by rw[h1];congr 1;omega⟩
 ·rcases cr (j+1) p.length with g | g
  ·rw[au (by omega)]at hz;rw[au g]at hu;exact h.nx j z u hz hu
  ·have hj:j=i:=by
    have:=(AI.1 hu).1;rw[By,dj]at this;omega
   subst hj;rw[au (by omega),hy]at hz;cases hz;rw[bg (by omega),hp,j9]at hu;cases hu;exact⟨m,hm,hx⟩
theorem WN{rs:List aD}{ls:List aC}{D:List (aC × Nat)}(dd:Ev rs ls D){y:aC}{d i:Nat}(hid:i<d)(hy:lG D y=some (d-i)):∃m x,bR (EI D ((d:Int)-(i:Int)-1)) (bH rs y)=some m/\(bH rs y)[m]?=some x:=by
 have h1:Gj (fE rs) (λx=>x∈ls/\x∈c_ rs) ((d-i-1)+1) y:=by
  rw[show d-i-1+1=d-i by omega];exact(dd.is y _).1 hy
 obtain⟨z,hz,hyz⟩:=h1.back;obtain⟨m,hm⟩:=mG (p:=EI D ((d:Int)-(i:Int)-1)) ((Ft z y).2 hyz) (I0.2 ⟨d-i-1,(dd.is z _).2 hz,by omega⟩);obtain⟨x,hx,-⟩:=gM hm;exact⟨m,x,hm,hx⟩
theorem S5{Y:Sg}{es:List (V × V)}{n:Int}{f:Nat}(b0:Y[0]?=some (.cells 131 [.imp false es] true))(b1:Y[1]?=some (.cells 3 [.int .i64 n] true)) :
  aR Y E.ty true (.fn f [] [.ref 0 0,.ref 1 0])=some (.fn f [] [.cR true [.imp false es],.cR true [.int .i64 n]]):=by
 have h1:=Ma (E:=E) b0 (cs':=[.imp false es]) (gH λx hx=>by
  rw[cj.1 hx];rfl)
 have h2:=Ma (E:=E) b1 (cs':=[.int .i64 n]) (gH λx hx=>by
  rw[cj.1 hx];rfl)
 simp only[aR,aW,h1,h2]
theorem S3(h:bG E)(h':mL E)(hl:bv E)(q:uM E)(tr:Bo E){g:V}{rs:List aD}(hg:xD E rs g)(hf:Fits rs){ls:List aC}{D:List (aC × Nat)}(dd:Ev rs ls D){x0:aC}{d:Nat}(hx0:lG D x0=some d){w:V}{Y:Sg}(ow:aY cN 51 Y w [x0])(b0:Y[0]?=some (.cells 131 [.imp false (D.map dV)] true))(b1:Y[1]?=some (.cells 3 [.int .i64 (d:Int)] true))
  (F:FT)(g0:F.get 0=g)(g7:F.get 7=.ref 0 0)(g8:F.get 8=w)(g9:F.get 9=.ref 1 0){st:List iT}{Q:io->Fr->Sg->Prop}
  (hk:∀F' τ' w' p,F'.get 8=w'->aY cN 51 τ' w' p->p.length=d+1->p[0]?=some x0->Wy D rs d p->M E st .normal ⟨72,F'⟩ τ' Q):Ax.R E (η [1,1,1,1,1,0] (aA hO).code) st ⟨72,F⟩ Y Q:=by
 have hd2:=dd.le x0 d hx0;simp only[aA,hO,KP,φ,η]
 refine aV (λi F Y=>F.get 0=g/\F.get 7=.ref 0 0/\F.get 9=.ref 1 0/\Y[0]?=some (.cells 131 [.imp false (D.map dV)] true)/\Y[1]?=some (.cells 3 [.int .i64 ((d:Int)-(i:Int))] true)/\∃w p,F.get 8=w/\aY cN 51 Y w p/\p.length=i+1/\p[0]?=some x0/\Wy D rs d p) d ?_ ?_ d 0 _ _ (by omega) ⟨(by simp+decide only[g0]),(by simp+decide only[g7]),(by simp+decide only[g9]),b0,by rw[show ((d:Int)-((0:Nat):Int))=(d:Int) by omega];exact b1,w,[x0],(by simp+decide only[g8]),ow,rfl,rfl,⟨λi y hy=>by
  obtain⟨hi,e⟩:=AI.1 hy;rw[dj]at hi;obtain rfl:i=0:=by omega
  cases e;exact⟨gv _,hx0⟩,λi y x hy hx=>by
  have:=(AI.1 hx).1;rw[dj]at this;omega⟩⟩
 ·clear ow b0 b1 g0 g7 g8 g9;rintro i F Y hi ⟨g0,g7,g9,b0,b1,w,p,g8,ow,hpl,hp0,wy⟩ next
  obtain⟨y,hy⟩:∃y,p[i]?=some y:=⟨_,AT (by omega)⟩;obtain⟨c,o,u,cs,ex,e1,hc,hle,hrow⟩:=GN hl ow hy;obtain⟨m,x,hm,hx⟩:=WN dd hi (wy.bC i y hy).2;have lw:=lV hl.fF rfl ow.ls;rw[hpl]at lw;have hgt:decide ((0:Int)<(d:Int)-(i:Int))=true:=BY (by omega);have hw1:wr .i64 (((i+1:Nat):Int)-1)=(i:Int):=by rw[Lm _ (by omega) (by omega)];omega
  have hw2:wr .i64 ((d:Int)-(i:Int)-1)=(d:Int)-(i:Int)-1:=Lm _ (by omega) (by omega);rw[aF];simp only[KP,ι,↓reduceIte,δ,ε,reduceCtorEq,h.mP,h.bU,g0,g8,g9,b1,hgt,lw,hw1,e1,hc,hle,hrow,row];refine aK (vX h h' hl q hg hf y) ?_;rintro v σ' ⟨rfl,hv⟩;have hvi:=hv.KL.is;have hdl:(bH rs y).length<=2000:=e8 (eO (vH rs y).nodup λx hx=>vG y x hx) (kP hf);have ef:=S5 (E:=E) (f:=103) b0 b1
  have kf:=dX (λK=>U1 (Z:=σ') (K:=K) (k:=103) (caps:=[.cR true [.imp false (D.map dV)],.cR true [.int .i64 ((d:Int)-(i:Int))]]) (P:=EI D ((d:Int)-(i:Int)-1)) h hl tr (hvi.ls σ' 51) (by omega) (λz _=>by
   show aB E 103 [.agg [.bool z.1,.str z.2],.cR true [.imp false (D.map dV)],.cR true [.int .i64 ((d:Int)-(i:Int))]] [] _;rw[b_S1 h hl tr hw2];exact⟨rfl,rfl⟩) ef)
  rw[hm,e_]at kf;obtain⟨gi,e2⟩:=t_ h hvi hx;obtain⟨w',τ5,ha5,ow5,HV,-⟩:=Aq (x:=x) (ex:=true) hl ow (by omega);have n0:aO w≠some 0:=BH ow λu ex e=>by rw[b0]at e;cases e
  have n1:aO w≠some 1:=BH ow λu ex e=>by rw[b1]at e;cases e
  have b05:=HV _ _ (aI b0) n0;have b15:=HV _ _ (aI b1) n1;simp only[KP,ι,Ξ,↓reduceIte,δ,ε,ω,μ,ap,h.mP,h.fF,h.bU,g7,g8,g9,kf,e2,fM,ha5,b15,hw2];refine next _ _ (fK (by simp+decide only[GS,g0,g7,g9,aj]) ⟨(by rw[aa (by decide)];exact b05),(by rw[br (AI.1 b15).1,show ((d:Int)-((i+1:Nat):Int))=(d:Int)-(i:Int)-1 by omega]),w',p++[x],(by simp+decide only[GS]),zN ow5 b15 (by decide),by rw[By,dj,hpl],by rw[au (by omega)];exact hp0,wy.snoc hpl hi hy hm hx⟩)
 ·rintro F Y ⟨g0,g7,g9,b0,b1,w,p,g8,ow,hpl,hp0,wy⟩;rw[show ((d:Int)-(d:Int))=0 by omega]at b1;rw[aF];simp only[KP,ι,↓reduceIte,ε,dv,h.mP,g9,b1];exact hk _ _ w p (by simp+decide only[GS,g8]) ow hpl hp0 wy
def Vx(rs:List aD)(D:List (aC × Nat))(Sx p:List aC):Prop:=
 (p=[]/\∀x,x∈Sx->lG D x=none) \/
 ∃(j:Nat) (x0:aC) (d:Nat),Sx[j]?=some x0/\lG D x0=some d/\(∀(j':Nat)(x:aC)(e:Nat),Sx[j']?=some x->lG D x=some e->d<=e/\(j'<j->d<e))/\p.length=d+1/\p[0]?=some x0/\Wy D rs d p
theorem TI:∀r x,cN.P r x->∀c∈r,cI false c=true:=λr x hr c hc=>by
 rw[show r=row x from hr]at hc;simp only[row,IN,bz,ek]at hc;rcases hc with rfl | rfl <;> rfl
theorem pP(hl:bv E){Y:Sg}{r:V}{l:List aC}(ow:aY cN 51 Y r l):∃v',cQ Y E.ty false r=some v'/\xP v' l:=by
 obtain⟨v',h1,h2⟩:=pQ hl.bU rfl TI ow;exact⟨v',h1,h2.imp id λ⟨rs,f,e,a⟩=>⟨f,by rw[e,sV a]⟩⟩
theorem K4(h:bG E)(h':mL E)(hl:bv E)(q:uM E)(tr:Bo E){g:V}{rs:List aD}(hg:xD E rs g)(hf:Fits rs){a b:V}{fr tto:List aC}(ha:LS cN 51 Z a fr)(hb:LS cN 51 Z b tto)(hfr:fr.length<=1000000)(hto:tto.length<=1000000)(hstr:∀x∈fr,x.2.length<=9223372036854775806) :
  aB E 34 [g,a,b] Z λv σ'=>σ'=Z/\∃D Sx p,Ev rs tto D/\xP v p/\Up Sx/\(∀x,x∈Sx ↔ x∈fr)/\Vx rs D Sx p:=by
 obtain⟨a',ea,ia⟩:=iJ h ha;obtain⟨b',eb,ib⟩:=iJ h hb;have e1:=bZ (Z:=Z) (ty:=E.ty) hg.bE (bJ hg.bE);rw[aH tr.hs34 tr.sp34 tr.fn34 tr.md34 (args':=[g,a',b']) (by simp only[aW,e1,ea,eb]),aU (by kernel_rfl)];have kpick:=λ{D Sx r Y} hlen on b0 b1 F g0 g7 g8 g9 g23 g24 g25 st Q hk=>S4 (D:=D) (Sx:=Sx) (r:=r) (g:=g) (Y:=Y) h h' hl q tr hlen on b0 b1 F g0 g7 g8 g9 g23 g24 g25 (st:=st) (Q:=Q) hk;have kwalk:=λ{D x0 d w Y} dd hx0 ow b0 b1 F g0 g7 g8 g9 st Q hk=>S3 (ls:=tto) (D:=D) (x0:=x0) (d:=d) (w:=w) (Y:=Y) h h' hl q tr hg hf dd hx0 ow b0 b1 F g0 g7 g8 g9 (st:=st) (Q:=Q) hk;rw[show (aA hO).code=.seq (η [0] (aA hO).code) (.seq (η [1,0] (aA hO).code) (.seq (η [1,1,0] (aA hO).code) (.seq (η [1,1,1,0] (aA hO).code) (.seq (.seq (η [1,1,1,1,0,0] (aA hO).code) (η [1,1,1,1,0,1] (aA hO).code)) (.seq (η [1,1,1,1,1,0] (aA hO).code) (η [1,1,1,1,1,1] (aA hO).code)))))) from rfl];generalize η [1,1,1,1,0,1] (aA hO).code=PP at kpick ⊢;generalize hBB:η [1,1,1,1,1,0] (aA hO).code=BB at kwalk ⊢;simp only[aA,hO,KP,↓reduceIte,δ,ε,μ,reduceCtorEq,φ,η];refine aK (BZ h h' hl q tr hg hf (ib.ls _ 51) hto) ?_;rintro v σ' ⟨rfl,D,rfl,dd⟩;simp only[KP,Ξ,↓reduceIte,δ,ε,φ,h.mP,tr.qT];refine aK (Lb.Em hl ((IS.lv ia).sv _) (by omega)) ?_;rintro r σ2 ⟨m,rfl,hs,-,ka⟩;have b0:=ka 0 _ rfl;have b1:=ka 1 _ rfl;have hkl:(keys [] fr).length<=1000000:=e8 mF (by rw[aq];omega);simp only[KP,↓reduceIte,ε,μ,reduceCtorEq,φ,hl.oW,hl.uQ]
 refine aK (Lb.Vw hl hs hkl (λx hx=>by
  have:=hstr x ((mem_keys.1 hx).resolve_left (by simp));omega)) ?_
 rintro r Y ⟨ho,ka2⟩;have b0:=ka2 _ _ b0;have b1:=ka2 _ _ b1;have hmS:∀x,x∈setOf (keys [] fr) ↔ x∈fr:=λx=>by rw[eP,mem_keys];simp
 have hup:=lI (keys [] fr);have hSl:(setOf (keys [] fr)).length<=1000000:=e8 (eO hup.nodup λx hx=>(eP.1 hx)) hkl;generalize setOf (keys [] fr)=Sx at ho hmS hup hSl
 have on:aY cN 51 Y r Sx:=by
  rcases ho with h0 | ⟨j,-,h1,h2⟩
  ·exact .inl h0
  ·exact .inr ⟨j,Sx.map row,false,h1,h2,v_ Sx⟩
 have lr:=lV hl.fF rfl on.ls;simp only[KP,↓reduceIte,ε,lr];refine kpick hSl on b0 b1 _ ?_ ?_ ?_ ?_ ?_ ?_ ?_ _ _ (λF1 τ1 w p left q0 q7 q8 q9 ow c0 c1 bs=>?_)
 ·simp+decide only[GS]
 ·simp+decide only[GS]
 ·simp+decide only[GS]
 ·simp+decide only[GS]
 ·simp+decide only[GS]
 ·simp+decide only[GS]
 ·simp+decide only[GS]
 rcases bs with⟨rfl,rfl,hno⟩ | ⟨j,x0,d,hj,hx0,hd,rfl,rfl,hmin⟩
 ·have hgt:decide ((0:Int) < -1)=false:=rfl;obtain⟨v',f1,iv⟩:=pP hl ow;rw[NS];subst hBB;simp only[aA,hO,KP,φ,η];rw[aF];simp only[KP,ι,↓reduceIte,δ,ε,dv,φ,h.mP,q8,q9,c1,f1]
  exact⟨D,Sx,[],dd,iv,hup,hmS,.inl ⟨rfl,λx hx=>by
   obtain⟨j,hj⟩:=gr.1 hx;exact hno j x (AI.1 hj).1 hj⟩⟩
 ·rw[NS];simp only[KP];refine kwalk dd hd ow c0 c1 F1 q0 q7 q8 q9 _ _ (λF2 τ2 w' p p8 ow2 hpl hp0 wy=>?_);obtain⟨v',f1,iv⟩:=pP hl ow2;rw[NS];simp only[KP,↓reduceIte,ε,p8,f1];exact⟨D,Sx,p,dd,iv,hup,hmS,.inr ⟨j,x0,d,hx0,hd,λj' x e hj' he=>hmin j' x e (AI.1 hj').1 hj' he,hpl,hp0,wy⟩⟩
structure Way (rs:List aD) (p:List aC):Prop where
 ne:p≠[]
 all:∀x∈p,x∈c_ rs
 nx:∀(i:Nat)(y x:aC),p[i]?=some y->p[i+1]?=some x->x∈bH rs y
theorem tE{rs:List aD}{n:bF}{y:aC}(h:y∈bH rs (true,n)):∃r∈rs,r.name=n/\∃f∈r.ins,y=(false,f):=by
 obtain⟨r,hr,⟨f,hf,e⟩ | ⟨f,hf,e⟩⟩:=FB.1 (nN.1 h)
 ·cases e;exact⟨r,hr,rfl,f,hf,rfl⟩
 ·cases e
theorem zT{rs:List aD}{f:bF}{y:aC}(h:y∈bH rs (false,f)):∃r∈rs,f∈r.outs/\y=(true,r.name):=by
 obtain⟨r,hr,⟨g,hg,e⟩ | ⟨g,hg,e⟩⟩:=FB.1 (nN.1 h)
 ·cases e
 ·cases e;exact⟨r,hr,hg,rfl⟩
def Le(rs:List aD):Nat->aC->aC->Prop
 |0,x,y=>x=y
 |n+1,x,y=>∃z,z∈bH rs x/\Le rs n z y
theorem Le.snoc{rs:List aD}:∀{n:Nat}{x y z:aC},Le rs n x y->z∈bH rs y->Le rs (n+1) x z
 |0,_,_,z,h,hz=>⟨z,by rw[show _=_ from h];exact hz,rfl⟩
 |n+1,_,_,_,⟨u,hu,h⟩,hz=>⟨u,hu,Le.snoc h hz⟩
theorem Ng{rs:List aD}(hf:Fits rs){i:Nat}{p:aD}(hp:rs[i]?=some p){y z:aC}(h1:y∈bH rs (true,p.name))(h2:z∈bH rs y):∃k r,rs[k]?=some r/\z=(true,r.name)/\iZ rs false i k=true:=by
 obtain⟨r0,hr0,hn0,f,hfi,rfl⟩:=tE h1;obtain rfl:=Nt hf hr0 (ag hp) hn0;obtain⟨r1,hr1,hfo,rfl⟩:=zT h2;obtain⟨k,hk⟩:=mG (p:=λr:aD=>decide (f∈r.outs)) hr1 (BY hfo);obtain⟨r,hr,hro⟩:=gM hk;have hro:=er hro;have hn:=(tP hf.ok.1).short.jW f r.name r1.name ⟨r,ag hr,hro,rfl⟩ ⟨r1,hr1,hfo,rfl⟩;refine⟨k,r,hr,by rw[hn],?_⟩;unfold iZ;rw[hp];unfold wL;rw[fl];exact .inl (fh.2 ⟨f,hfi,BY hk⟩)
theorem Tf{rs:List aD}(hf:Fits rs)(n:Nat):∀{i:Nat}{p:aD}{m:bF},rs[i]?=some p->Le rs n (true,p.name) (true,m)->n=0\/∃k r,rs[k]?=some r/\r.name=m/\AxS.Way (iZ rs false) i k:=by
 induction n using Nat.strongRecOn with
 |_ n ih=>
  intro i p m hp h
  match n,h with
  |0,_=>exact .inl rfl
  |1,⟨z,hz,hzm⟩=>
   obtain⟨r,-,-,f,-,rfl⟩:=tE hz;cases hzm
  |n+2,⟨y,hy,z,hz,h⟩=>
   obtain⟨k,r,hr,rfl,hn⟩:=Ng hf hp hy hz;rcases ih n (by omega) hr h with rfl | ⟨k',r',h1,h2,h3⟩
   ·cases h;exact .inr ⟨k,r,hr,rfl,.one hn⟩
   ·exact .inr ⟨k',r',h1,h2,.cons hn h3⟩
theorem Tk{rs:List aD}(hf:Fits rs){n:Nat}{x:aC}(h:Le rs (n+1) x x):False:=by
 have hnd:(rs.map aD.name).Nodup:=vI (tP hf.ok.1).short.nodup
 have key:∀(n:Nat)(p:aD),p∈rs->Le rs (n+1) (true,p.name) (true,p.name)->False:=λn p hp h=>by
  obtain⟨i,hi⟩:=gr.1 hp;rcases Tf hf (n+1) hi h with h0 | ⟨k,r,hr,hrn,hw⟩
  ·omega
  ·have hik:i=k:=by
    have h1:(rs.map aD.name)[i]?=some p.name:=by rw[jm,hi];rfl
    have h2:(rs.map aD.name)[k]?=some p.name:=by rw[jm,hr,<- hrn];rfl
    obtain⟨hil,e1⟩:=AI.1 h1;obtain⟨hkl,e2⟩:=AI.1 h2;exact(List.getElem_inj hnd).1 (e1.trans e2.symm)
   subst hik;exact hf.ok.2 ⟨i,(AI.1 hi).1,hw⟩
 obtain⟨z,hz,hzx⟩:=h;obtain⟨b,s⟩:=x;cases b with
 |true=>
  obtain⟨r,hr,rfl,-⟩:=tE hz;exact key n r hr ⟨z,hz,hzx⟩
 |false=>
  obtain⟨r,hr,-,rfl⟩:=zT hz;exact key n r hr (hzx.snoc hz)
theorem Way.pth{rs:List aD}{p:List aC}(h:Way rs p):∀(n i:Nat) {y z:aC},p[i]?=some y->p[i+n]?=some z->Le rs n y z
 |0,i,y,z,hy,hz=>by rw[l6,hy]at hz;cases hz;rfl
 |n+1,i,y,z,hy,hz=>by
  obtain⟨u,hu⟩:∃u,p[i+1]?=some u:=⟨_,AT (by have:=(AI.1 hz).1;omega)⟩;exact⟨u,h.nx i y u hy hu,h.pth n (i+1) hu (by rw[show i+1+n=i+(n+1) by omega];exact hz)⟩
theorem Way.take{rs:List aD}{p:List aC}(h:Way rs p)(k:Nat):Way rs (p.take (k+1)):=by
 refine⟨λe=>?_,λx hx=>h.all x (jo hx),λi y x hy hx=>?_⟩
 ·have:=b8 df e;rw[bl,aq]at this;have:=ej.2 h.ne;omega
 ·have hl:=(AI.1 hx).1;rw[bl]at hl;rw[fu (by omega)]at hy hx;exact h.nx i y x hy hx
theorem Way.drop{rs:List aD}{p:List aC}(h:Way rs p){k:Nat}(hk:k<p.length):Way rs (p.drop k):=by
 refine⟨λe=>?_,λx hx=>h.all x (mf hx),λi y x hy hx=>?_⟩
 ·have:=b8 df e;rw[nj,aq]at this;omega
 ·rw[jf]at hy hx;exact h.nx (k+i) y x hy (by rw[show k+i+1=k+(i+1) by omega];exact hx)
theorem Way.join{rs:List aD}{p r:List aC}{b:aC}(h:Way rs p)(h':Way rs r)(hp:p[p.length-1]?=some b)(hr:r[0]?=some b):Way rs (p++r.drop 1):=by
 have hpl:=ej.2 h.ne;refine⟨λe=>h.ne (List.append_eq_nil_iff.1 e).1,λx hx=>?_,λi y x hy hx=>?_⟩
 ·rcases cq.1 hx with hx | hx
  ·exact h.all x hx
  ·exact h'.all x (mf hx)
 ·rcases jn (i+1) p.length with g | g | g
  ·rw[au (by omega)]at hy hx;exact h.nx i y x hy hx
  ·rw[au (by omega),show i=p.length-1 by omega,hp]at hy;cases hy;rw[bg (by omega),jf,show 1+(i+1-p.length)=0+1 by omega]at hx;exact h'.nx 0 b x hr hx
  ·rw[bg (by omega),jf]at hy hx;exact h'.nx (1+(i-p.length)) y x hy (by rw[show 1+(i-p.length)+1=1+(i+1-p.length) by omega];exact hx)
theorem Way.bC{rs:List aD}{p:List aC}(h:Way rs p){c:aC}(hc:p[p.length-1]?=some c):∀(n i:Nat) {y:aC},i+n+1=p.length->p[i]?=some y->Rk (fE rs) (λx=>x∈[c]/\x∈c_ rs) n y
 |0,i,y,hl,hy=>by
  rw[show p.length-1=i by omega,hy]at hc;cases hc;exact⟨cj.2 rfl,h.all _ (ag hy)⟩
 |n+1,i,y,hl,hy=>by
  obtain⟨u,hu⟩:∃u,p[i+1]?=some u:=⟨_,AT (by omega)⟩;exact .inr ⟨u,h.bC hc n (i+1) (by omega) hu,(Ft u y).1 (h.nx i y u hy hu)⟩
theorem Uu{rs:List aD}{ls:List aC}{D:List (aC × Nat)}(dd:Ev rs ls D){x:aC}{d:Nat}(hd:lG D x=some d):x∈c_ rs:=
 Rk.sub (P:=λx=>x∈c_ rs) (λ_ hx=>hx.2) (λy x hx=>CI y x hx) d ((dd.is x d).1 hd).1
structure Told (rs:List aD) (a b:aC) (p:List aC):Prop where
 way:p≠[]->Way rs p/\p[0]?=some a/\p[p.length-1]?=some b
 short:∀w,Way rs w->w[0]?=some a->w[w.length-1]?=some b->p.length<=w.length
 some:∀w,Way rs w->w[0]?=some a->w[w.length-1]?=some b->p≠[]
theorem Gv{rs:List aD}{a b:aC}{D:List (aC × Nat)}{Sx p:List aC}(dd:Ev rs [b] D)(hS:∀x,x∈Sx ↔ x∈[a])(h:Vx rs D Sx p):Told rs a b p:=by
 have hnear:∀w,Way rs w->w[0]?=some a->w[w.length-1]?=some b->∃d,d+1<=w.length/\lG D a=some d:=λw hw ha hb=>by
  have hl:=ej.2 hw.ne;obtain⟨d,hd,hi⟩:=Gj.some (hw.bC hb (w.length-1) 0 (by omega) ha);exact⟨d,by omega,(dd.is a d).2 hi⟩
 rcases h with⟨rfl,hno⟩ | ⟨j,x0,d,hj,hx0,hmin,hpl,hp0,wy⟩
 ·refine⟨λe=>absurd rfl e,λw hw ha hb=>gv _,λw hw ha hb=>?_⟩;obtain⟨d,-,hd⟩:=hnear w hw ha hb;rw[hno a ((hS a).2 (cj.2 rfl))]at hd;cases hd
 ·have hxa:x0=a:=cj.1 ((hS x0).1 (ag hj));subst hxa;have hne:p≠[]:=λe=>by rw[e]at hpl;simp at hpl
  refine⟨λ_=>⟨⟨hne,λx hx=>?_,λi y x hy hx=>?_⟩,hp0,?_⟩,λw hw ha hb=>?_,λ_ _ _ _=>hne⟩
  ·obtain⟨i,hi⟩:=gr.1 hx;exact Uu dd (wy.bC i x hi).2
  ·obtain⟨m,-,hm⟩:=wy.nx i y x hy hx;exact ag hm
  ·obtain⟨z,hz⟩:∃z,p[p.length-1]?=some z:=⟨_,AT (by omega)⟩;have h0:=(wy.bC _ z hz).2;rw[show d-(p.length-1)=0 by omega]at h0;have h1:z∈[b]:=((dd.is z 0).1 h0).1.1;rw[hz,cj.1 h1]
  ·obtain⟨e,he,hd⟩:=hnear w hw ha hb;rw[hx0]at hd;cases hd;omega
theorem Way.nodup{rs:List aD}(hf:Fits rs){p:List aC}(h:Way rs p):p.Nodup:=by
 rw[List.nodup_iff_pairwise_ne,List.pairwise_iff_getElem];intro i j hi hj hij e;have h1:=h.pth (j-i) i (y:=p[i]) (z:=p[j]) (AT hi) (by rw[Nat.add_sub_cancel' (Nat.le_of_lt hij)];exact AT hj);rw[<- e,show j-i=(j-i-1)+1 by omega]at h1;exact Tk hf h1
theorem Way.len{rs:List aD}(hf:Fits rs){p:List aC}(h:Way rs p):p.length<=2000:=e8 (eO (h.nodup hf) h.all) (kP hf)
theorem Way.one{rs:List aD}{x:aC}(hx:x∈c_ rs):Way rs [x]:=⟨by simp,λy hy=>by rw[cj.1 hy];exact hx,λi y z hy hz=>by
 have:=(AI.1 hz).1;rw[dj]at this;omega⟩
theorem Way.cons{rs:List aD}{x y:aC}{p:List aC}(hx:x∈c_ rs)(h:Way rs p)(h0:p[0]?=some y)(hy:y∈bH rs x):Way rs (x::p):=⟨by simp,λz hz=>by
 rcases IN.1 hz with rfl | hz
 ·exact hx
 ·exact h.all z hz,λi u v hu hv=>by
 cases i with
 |zero=>cases hu;rw[cm,h0]at hv;cases hv;exact hy
 |succ i=>exact h.nx i u v hu hv⟩
theorem Io{rs:List aD}:∀(n:Nat) {x y:aC},x∈c_ rs->Le rs n x y->∃w,Way rs w/\w[0]?=some x/\w.length=n+1
 |0,x,_,hx,_=>⟨[x],.one hx,rfl,rfl⟩
 |n+1,x,y,hx,⟨z,hz,h⟩=>by
  obtain⟨w,h1,h2,h3⟩:=Io n (vG x z hz) h;exact⟨x::w,h1.cons hx h2 hz,rfl,by rw[IT,h3]⟩
open Classical in
noncomputable def HO (p:Nat->Prop):Nat->Nat
 |0=>0
 |n+1=>if p (n+1) then n+1 else HO p n
theorem Lv(p:Nat->Prop):∀n,HO p n<=n
 |0=>OF _
 |n+1=>by
  unfold HO;split
  ·exact OF _
  ·exact Nat.le_succ_of_le (Lv p n)
theorem Lw{p:Nat->Prop}(h0:p 0):∀n,p (HO p n)
 |0=>h0
 |n+1=>by
  unfold HO;split
  ·rename_i h;exact h
  ·exact Lw h0 n
theorem HN{p:Nat->Prop}{m:Nat}(hm:p m):∀n,m<=n->m<=HO p n
 |0,h=>h
 |n+1,h=>by
  unfold HO;split
  ·exact h
  ·rename_i hn;refine HN hm n (Nat.lt_succ_iff.1 (Nat.lt_of_le_of_ne h λe=>?_));rw[e]at hm;exact hn hm
noncomputable def deep (rs:List aD) (x:aC):Nat:=HO (λn=>∃y,Le rs n x y) 2000
theorem Ah(rs:List aD)(x:aC):deep rs x<=2000:=Lv _ _
theorem A1{rs:List aD}{x y:aC}(hy:y∈bH rs x):x∈c_ rs:=(GM (nN.1 hy)).1
theorem Hl{rs:List aD}(hf:Fits rs){x y:aC}(hy:y∈bH rs x):deep rs y<deep rs x:=by
 have h0:∃z,Le rs (deep rs y) y z:=Lw (p:=λn=>∃z,Le rs n y z) ⟨y,rfl⟩ 2000;obtain⟨z,hz⟩:=h0;have h1:Le rs (deep rs y+1) x z:=⟨y,hy,hz⟩;obtain⟨w,h2,-,h3⟩:=Io _ (A1 hy) h1;have:=h2.len hf;exact HN (p:=λn=>∃z,Le rs n x z) ⟨z,h1⟩ 2000 (by omega)
def mC(ok:aC->Bool)(nx:aC->List aC)(b:aC)(many:Nat):Nat->List aC->aC->List (List aC)->List (List aC)
 |0,_,_,out=>out
 |d+1,p,x,out=>if ok x=false\/many<=out.length then out else if x=b then out++[p] else (nx x).foldl (λout y=>mC ok nx b many d (p++[y]) y out) out
theorem FP{α:Type}{f:List α->aC->List α}{M:Nat}(h:∀o y,o.length<=M->(f o y).length<=M):∀(l:List aC)(o:List α),o.length<=M->(l.foldl f o).length<=M
 | [],o,ho=>ho
 |y::l,o,ho=>FP h l _ (h o y ho)
theorem EW(ok:aC->Bool)(nx:aC->List aC)(b:aC)(many:Nat):∀(d:Nat)(p:List aC)(x:aC)(out:List (List aC)),out.length<=many->(mC ok nx b many d p x out).length<=many
 |0,_,_,_,h=>h
 |d+1,p,x,out,h=>by
  unfold mC;split
  ·exact h
  ·rename_i hn;split
   ·rw[By,dj];omega
   ·exact FP (λo y ho=>EW ok nx b many d _ y o ho) _ _ h
end
end
end Go.Proofs.YtmbikbgdbbcbmaaGreatDoor
namespace Go.Ax
open Go
section
section
variable (P:Program) (E:Env)
def nF(code:Code)(fr:Fr)(Z:Sg)(Q:X->Fr->Sg->Prop):Prop:=∀(c:Cx)(a:Act),SR E c->c.Z=Z->FR c fr a.tmps->a.defers=[]->code.wp P (wB E c Q) a c.w
def Vb(code:Code)(fr:Fr)(Z:Sg)(Q:X->Fr->Sg->Prop):Prop:=∀(c:Cx)(a:Act),SR E c->c.Z=Z->FR c fr a.tmps->a.defers=[]->∀c0,Ext c0 c->As P code (wB E c0 Q) a c.w
def qZ(f:Nat)(args:List V)(Z:Sg)(R:V->Sg->Prop):Prop:=∀(c:Cx)(xs:List Value),SR E c->c.Z=Z->fH c args xs->sK P f xs c.w λx w'=>∃v σ',R v σ'/\jO E c v σ' x w'
def sJ(ops:Array cd)(l:List Nat)(fr:Fr)(Z:Sg)(Q:Fr->Sg->Prop):Prop:=∀(c:Cx)(a:Act),SR E c->c.Z=Z->FR c fr a.tmps->a.defers=[]->∀c0,Ext c0 c->wpOps P ops (wB E c0 λx fr Z=>x=.normal/\Q fr Z) l a c.w
end
section
variable {P:Program}{E:Env}{fr:Fr}{Z:Sg}{Q Q1:X->Fr->Sg->Prop}
theorem uF(he:cG P E)(hfs:f_ P E)(hmix:P.follows .mixedOrders=true){code:Code}(h:R E code [] fr Z Q):nF P E code fr Z Q:=by
 obtain⟨n,x,fr',σ',h1,h2⟩:=h;exact λc a hs hσ hf hd=>wp_mono ((rZ he hfs hmix n).1 _ _ _ _ _ _ h1 c a hs hσ hf hd) λe a w hp=>⟨x,fr',σ',h2,hp⟩
theorem C6{code:Code}(h:nF P E code fr Z Q1)(hq:∀x fr Z,Q1 x fr Z->Q x fr Z):nF P E code fr Z Q:=λc a h1 h2 h3 h4=>wp_mono (h c a h1 h2 h3 h4) λe a w ⟨x,fr,Z,k,p⟩=>⟨x,fr,Z,hq _ _ _ k,p⟩
theorem nX{a b:Code}(Q1:X->Fr->Sg->Prop)(h1:nF P E a fr Z Q1)(h2:∀x fr Z,Q1 x fr Z->x≠.normal->Q x fr Z)(h3:∀fr Z,Q1 .normal fr Z->nF P E b fr Z Q):nF P E (.seq a b) fr Z Q:=λc act hs hσ hf hd=>by
 refine _root_.Go.wp_seq (wp_mono (h1 c act hs hσ hf hd) ?_);rintro e a1 w1 ⟨x,fr1,σ1,hq,hx1,hd1,c',rfl,hσ1,k1,k2,k3⟩;cases x with
 |normal=>
  cases hx1;exact wp_mono (h3 _ _ hq c' a1 k2 hσ1 k3 hd1) λe a w hp=>hp.trans k1
 |exit id=>cases hx1;exact⟨.exit id,fr1,σ1,h2 _ _ _ hq (by simp),rfl,hd1,c',rfl,hσ1,k1,k2,k3⟩
 |ret=>cases hx1;exact⟨.ret,fr1,σ1,h2 _ _ _ hq (by simp),rfl,hd1,c',rfl,hσ1,k1,k2,k3⟩
theorem LY{o:χ}{a b:Code}(hx:aS fr o=some (.bool true))(h:nF P E a fr Z Q):nF P E (.cond o a b) fr Z Q:=λc act hs hσ hf hd=>wp_cond_true (aM hf hx).gO (h c act hs hσ hf hd)
theorem Wv{o:χ}{a b:Code}(hx:aS fr o=some (.bool false))(h:nF P E b fr Z Q):nF P E (.cond o a b) fr Z Q:=λc act hs hσ hf hd=>wp_cond_false (aM hf hx).gO (h c act hs hσ hf hd)
theorem Fb{id:Nat}{code:Code}(Q1:X->Fr->Sg->Prop)(h1:nF P E code fr Z Q1)(h2:∀x fr Z,Q1 x fr Z->x≠.exit id->Q x fr Z)(h3:∀fr Z,Q1 (.exit id) fr Z->Q .normal fr Z):nF P E (.block id code) fr Z Q:=λc act hs hσ hf hd=>by
 refine _root_.Go.wp_block (wp_mono (h1 c act hs hσ hf hd) ?_);rintro e a1 w1 ⟨x,fr1,σ1,hq,hx1,hp⟩;cases x with
 |normal=>cases hx1;exact⟨.normal,fr1,σ1,h2 _ _ _ hq (by simp),rfl,hp⟩
 |ret=>cases hx1;exact⟨.ret,fr1,σ1,h2 _ _ _ hq (by simp),rfl,hp⟩
 |exit id'=>
  cases hx1;simp only[Exit.inBlock];split
  ·rename_i heq;subst heq;exact⟨.normal,fr1,σ1,h3 _ _ hq,rfl,hp⟩
  ·rename_i heq;exact⟨.exit id',fr1,σ1,h2 _ _ _ hq (λh=>heq (by injection h)),rfl,hp⟩
theorem PY{code:Code}(h:Vb P E code fr Z Q):nF P E (.loop code) fr Z Q:=λc act hs hσ hf hd=>HD (h c act hs hσ hf hd c (Ext.refl c))
theorem E9{code:Code}(Q1:X->Fr->Sg->Prop)(h1:nF P E code fr Z Q1)(h2:∀x fr Z,Q1 x fr Z->x≠.normal->Q x fr Z)(h3:∀fr Z,Q1 .normal fr Z->Vb P E code fr Z Q):Vb P E code fr Z Q:=λd act hs hσ hf hd c0 hx=>by
 refine IG (wp_mono (h1 d act hs hσ hf hd) ?_);rintro e a1 w1 ⟨x,fr1,σ1,hq,hx1,hd1,c',rfl,hσ1,k1,k2,k3⟩;cases x with
 |normal=>
  cases hx1;exact h3 _ _ hq c' a1 k2 hσ1 k3 hd1 c0 (hx.trans k1)
 |exit id=>cases hx1;exact⟨.exit id,fr1,σ1,h2 _ _ _ hq (by simp),rfl,hd1,c',rfl,hσ1,hx.trans k1,k2,k3⟩
 |ret=>cases hx1;exact⟨.ret,fr1,σ1,h2 _ _ _ hq (by simp),rfl,hd1,c',rfl,hσ1,hx.trans k1,k2,k3⟩
theorem E_(he:cG P E)(hfs:f_ P E){f:Nat}{F:Fn}(hF:E.fn f=some F){args:List V}{R:V->Sg->Prop}{fr0:Fr}(hfr0:Fr.init F.ntmps args=some fr0)
  (h:nF P E F.code fr0 Z λx fr Z=>(x=.normal\/x=.ret)/\∃vs,results E fr Z F.results=some vs/\R (match vs with | [v]=>v | vs=>.fR vs) Z):qZ P E f args Z R:=λc xs hs hσ hv=>by
 refine(rC hfs hF (R:=λx w'=>∃v σ',R v σ'/\jO E c v σ' x w') ?_);obtain⟨fn,h1,h2,h3,h4,h5⟩:=hfs.fn f F hF;refine calls_of_wp h1 h2 ?_
 have:=h c { tmps:=xs.toArray++dC (fn.ntmps-xs.toArray.size) undef,defers:=[] } hs hσ (by
  have:=FR.init hv hfr0;simpa [h3]using this) rfl
 refine wp_mono this ?_;rintro e a w ⟨x,fr1,σ1,⟨hq1,us,hu,hR⟩,hx,hd,c',rfl,rfl,k1,k2,k3⟩
 have fin:a.defers=[]/\∃v',(Go.results fn a.tmps).run P c'.w=.ok v' c'.w/\∃x,Ending.returned v'=.returned x/\∃v σ',R v σ'/\jO E c v σ' x c'.w:=by
  refine⟨hd,?_⟩;obtain⟨ys,g1,g2⟩:=jR he k2 k3 hu
  have run:∀v',(if h:ys.toArray.size=1 then ys.toArray[0] else .tuple ys.toArray)=v'->(Go.results fn a.tmps).run P c'.w=.ok v' c'.w:=by
   rintro v' rfl;rw[sX,o9,h4];simp only[Sem.run_bind,Sem.run_map];rw[g1];simp
  cases g2 with
  |nil=>exact⟨_,run _ rfl,_,rfl,_,_,hR,c',rfl,rfl,k1,k2,.fR [] [] .nil⟩
  |cons u y us ys hy hr=>
   cases hr with
   |nil=>exact⟨y,run _ (by simp),_,rfl,_,_,hR,c',rfl,rfl,k1,k2,hy⟩
   |cons u' y' us ys hy' hr=>
    refine⟨.tuple (y::y'::ys).toArray,run _ ?_,_,rfl,_,_,hR,c',rfl,rfl,k1,k2,.fR _ _ (.cons _ _ _ _ hy (.cons _ _ _ _ hy' hr))⟩;rw[dif_neg (by simp)]
 rcases hq1 with rfl | rfl
 ·cases hx;exact fin
 ·cases hx;exact fin
variable {ops:Array cd}{l:List Nat}{QO:Fr->Sg->Prop}
theorem C7(h:QO fr Z):sJ P E ops [] fr Z QO:=λc a hs hσ hf hd c0 hx=>⟨.normal,fr,Z,⟨rfl,h⟩,rfl,hd,c,rfl,hσ,hx,hs,hf⟩
theorem GH{i:Nat}{o:cd}(ho:ops[i]?=some o)(hw:cE ops o fr=true)(S:V->Sg->Prop)
  (hop:∀(c:Cx)(a:Act),SR E c->c.Z=Z->FR c fr a.tmps->∀(next:Act->World->Prop)(Q':Exit->Act->World->Prop),(∀x w' v σ',S v σ'->jO E c v σ' x w'->next (a.put o.dst x) w')->o.wp P a c.w next Q')
  (h:∀v σ',S v σ'->sJ P E ops l (cW fr o.dst v) σ' QO):sJ P E ops (i::l) fr Z QO:=λc a hs hσ hf hd c0 hx=>by
 simp only[wpOps,ho];rw[CG hf,az hw]
 left
 refine hop c a hs hσ hf _ _ ?_;rintro x w' v σ' hS ⟨c',rfl,hσ',k1,k2,k3⟩;exact h v σ' hS c' (a.put o.dst x) k2 hσ' (FR.put (FR.mono k1 hf) k3 o.dst) (by rw[put_defers];exact hd) c0 (hx.trans k1)
theorem pT(he:cG P E)(hfs:f_ P E)(hmix:P.follows .mixedOrders=true){n i:Nat}{frz:Fz}{o:cd}{v:V}{σ1:Sg}(ho:ops[i]?=some o)(hw:cE ops o fr=true)(hv:lP E (ev E n) frz o.op fr Z=some (v,σ1))
  (h:sJ P E ops l (cW fr o.dst v) σ1 QO):sJ P E ops (i::l) fr Z QO:=
 GH ho hw (λu Y=>u=v/\Y=σ1) (λc a hs hσ hf next Q' hn=>Df he hfs (rZ he hfs hmix n).1 hs hf (by rw[hσ];exact hv) λx w' hb=>hn x w' v σ1 ⟨rfl,rfl⟩ hb) (by rintro u Y ⟨rfl,rfl⟩;exact h)
theorem Fc{i k:Nat}{o:cd}{f:χ}{args:Array χ}{ats:Array Nat}{first cap l':List V}{R:V->Sg->Prop}(ho:ops[i]?=some o)(hop:o.op=.call { callee:=.value f,args:=args,argTypes:=ats })(hw:cE ops o fr=true)
  (hf0:aS fr f=some (.fn k first cap))(ha:eJ fr args.toList=some l')(hc:qZ P E k (first++l'++cap) Z R)(h:∀v σ',R v σ'->sJ P E ops l (cW fr o.dst v) σ' QO):sJ P E ops (i::l) fr Z QO:=by
 refine GH ho hw R (λc a hs hσ hf next Q' hn=>?_) h;have hfv:=aM hf hf0;obtain⟨xs,ys,hx,h1,h2⟩:=hfv.A_;have h3:=jJ hf ha;have hrun:=hc c _ hs hσ ((h1.append h3).append h2)
 have hex:(execOp a.eval o).run P c.w=(callFunc k (xs++List.map a.eval args.toList++ys).toArray).run P c.w:=by
  have e:xs.toArray++Array.map a.eval args++ys.toArray=(xs++List.map a.eval args.toList++ys).toArray:=by apply pn;simp
  simp only[execOp,hop,resolve,hx,Deferred.ofValue,invoke,Sem.run_bind,Sem.run_pure,Result.andThen_ok,e]
 unfold Oper.wp;rw[hex];rcases hrun with⟨r1,r2⟩ | ⟨x,w',r1,r2⟩
 ·rw[r1,Oper.upon_enter];refine r2.mono ?_;rintro e w' ⟨x,rfl,v,σ',hR,hb⟩;exact hn _ _ v σ' hR hb
 ·rw[r1];obtain⟨v,σ',hR,hb⟩:=r2;exact hn _ _ v σ' hR hb
theorem P3(he:cG P E){j st e n b off len:Nat}{o:cd}{x y:χ}{ats:Array Nat}{si i:Ty}{cs new:List V}{ex:Bool}{yv:V}(ho:ops[j]?=some o)(hop:o.op=.call { callee:=.builtin .append,args:=#[x,y],argTypes:=ats })(hw:cE ops o fr=true)
  (hx:aS fr x=some (.sl b off len none))(hy:aS fr y=some yv)(hat:ats[0]?=some st)(hsi:E.ty st=some si)(hkd:si.kd=.sl e)(hi:E.ty e=some i)(hpl:eD E ats=true)(hi0:i.size≠0)
  (hel:elems Z i.size yv=some (new,n))(hob:Z[b]?=some (.cells e cs ex))(hle:off+len*i.size<=cs.length)(hrm:roomy (len+n) i.bytes=true)
  (hA:sJ P E ops l (cW fr o.dst (.sl b off (len+n) none)) (Z.set b (.cells e (cs.take (off+len*i.size)++new) false)) QO)
  (hB:sJ P E ops l (cW fr o.dst (.sl Z.length 0 (len+n) none)) (Z++[.cells e ((cs.drop off).take (len*i.size)++new) false]) QO):sJ P E ops (j::l) fr Z QO:=by
 refine GH ho hw (λv σ'=>(v=.sl b off (len+n) none/\σ'=Z.set b (.cells e (cs.take (off+len*i.size)++new) false))\/(v=.sl Z.length 0 (len+n) none/\σ'=Z++[.cells e ((cs.drop off).take (len*i.size)++new) false])) (λc a hs hσ hf next Q' hn=>?_) ?_
 ·subst hσ;have h1:=aM hf hx;have h2:=aM hf hy;have lift:∀{m:Sem Value}{u:Value}{w':World},m.run P c.w=.ok u w'->(do pure (Next.value (<- m)):Sem Next).run P c.w=.ok (.value u) w':=λh=>by simp[h]
  have key:∀{r:V}{σ':Sg},gP E c ((Builtin.append_ ats o.type #[a.eval x,a.eval y]).run P c.w) r σ'->∃c' u,(execOp a.eval o).run P c.w=.ok (.value u) c'.w/\c'.Z=σ'/\Ext c c'/\SR E c'/\VR c' r u:=by
   rintro r σ' ⟨c',u,g1,g2⟩;refine⟨c',u,?_,g2⟩;simp only[execOp,hop,resolve,invoke,Sem.run_bind,Sem.run_pure,Result.andThen_ok];have e:Array.map a.eval #[x,y] = #[a.eval x,a.eval y]:=by simp
   rw[e];exact lift g1
  rcases K6 he hs (ty:=o.type) hat hsi hkd hi hpl hi0 hel hob hle hrm h1 h2 with g | g
  ·obtain⟨c',u,hex,q1,q2,q3,q4⟩:=key g;unfold Oper.wp;rw[hex];exact hn _ _ _ _ (.inl ⟨rfl,rfl⟩) ⟨c',rfl,q1,q2,q3,q4⟩
  ·obtain⟨c',u,hex,q1,q2,q3,q4⟩:=key g;unfold Oper.wp;rw[hex];exact hn _ _ _ _ (.inr ⟨rfl,rfl⟩) ⟨c',rfl,q1,q2,q3,q4⟩
 ·rintro v σ' (⟨rfl,rfl⟩ | ⟨rfl,rfl⟩)
  ·exact hA
  ·exact hB
theorem Kh{id:Nat}(h:sJ P E ops (List.range ops.size) fr Z λfr Z=>Q .normal fr Z):nF P E (.region id ops false) fr Z Q:=λc a hs hσ hf hd=>
 wp_mono (wp_region (h c a hs hσ hf hd c (Ext.refl c))) (by rintro e a w ⟨x,fr,Z,⟨rfl,hq⟩,p⟩;exact⟨.normal,fr,Z,hq,p⟩)
theorem PZ(hmix:P.follows .mixedOrders=true){id:Nat}(h:∀t,sJ P E ops (i7 .any ops t) fr Z λfr Z=>Q .normal fr Z):nF P E (.region id ops true) fr Z Q:=λc a hs hσ hf hd=>by
 refine wp_mono (wp_region_draw (Q:=wB E c λx fr Z=>x=.normal/\Q .normal fr Z) λt=>?_) (by rintro e a w ⟨x,fr,Z,⟨rfl,hq⟩,p⟩;exact⟨.normal,fr,Z,hq,p⟩);rw[hmix];simp only[Region.schedule,Bool.true_or,bf];exact h t c.drew a (Cx.wS hs) hσ (FR.mono c.kO hf) hd c c.kO
theorem go_sem{J:Array Bool->Fr->Sg->Prop}
  (hsize:∀L fr Z,J L fr Z->L.size=ops.size)
  (hlt:∀i o,ops[i]?=some o->∀e∈o.after.toList,cY .any e=true->e.on<i)
  (hstep:∀L fr Z i o (l:List Nat),J L fr Z->ops[i]?=some o->L[i]?=some false->(∀e∈o.after.toList,cY .any e=true->L[e.on]?=some true)->(∀fr' σ',J (L.setIfInBounds i true) fr' σ'->sJ P E ops l fr' σ' QO)->sJ P E ops (i::l) fr Z QO)
  (hdone:∀L fr Z,J L fr Z->(∀k,k<ops.size->L[k]?=some true)->QO fr Z):∀(fuel t:Nat)(L:Array Bool)(acc:List Nat),L.size=ops.size->L.toList.count false<=fuel ->
  ∃l,ii .any ops fuel t L acc=acc.reverse++l/\∀fr Z,J L fr Z->sJ P E ops l fr Z QO
 |0,t,L,acc,hz,hc=>by
  refine⟨[],by simp[ii],λfr Z hi=>C7 (hdone _ _ _ hi λk hk=>?_)⟩;have hk':k<L.size:=by rw[hz];exact hk
  have h0:false ∉ L.toList:=List.count_eq_zero.1 (by omega);rw[gq hk'];cases hx:L[k] with
  |true=>rfl
  |false=>exact(h0 (by rw[<- hx];simp)).elim
 |fuel+1,t,L,acc,hz,hc=>by
  simp only[ii]
  generalize hrs:(List.range ops.size).filter (λi=>
    !L.getD i true&&((ops[i]?).map (λ(x:cd)=>x.after.all λe=>!cY .any e||L.getD e.on false)).getD false)=rs
  have mem:∀i,i∈rs ↔ i<ops.size/\L[i]?=some false/\∃o,ops[i]?=some o/\∀e∈o.after.toList,cY .any e=true->L[e.on]?=some true:=by
   intro i;rw[<- hrs];simp only[mu,k8,ak];refine and_congr qh (and_congr ?_ ?_)
   ·rw[nh];cases hx:L[i]? with
    |none=>simp
    |some b=>cases b <;> simp
   ·cases ho:ops[i]? with
    |none=>simp
    |some o=>
     simp only[ck,ay,j7,exists_eq_left'];rw[<- Array.all_toList];simp only[eu,fl,gu];refine forall_congr' λe=>forall_congr' λhe=>?_;rw[nh];cases hb:cY .any e with
     |false=>simp
     |true=>
      cases hx:L[e.on]? with
      |none=>simp
      |some b=>cases b <;> simp
  cases hget:rs[t % rs.length]? with
  |none=>
   dsimp only;refine⟨[],by simp,λfr Z hi=>?_⟩
   have hemp:rs=[]:=by
    cases rs with
    |nil=>rfl
    |cons a r=>
     have:=List.getElem?_eq_none_iff.1 hget;have:=Nat.mod_lt t (show 0<(a::r).length by simp);omega
   have:∀k,k<ops.size->L[k]?=some true:=λk hk=>by
    rcases DU (λk=>L[k]?≠some true) 0 ops.size (by omega) with hn | ⟨a,_,a2,a3,a4⟩
    ·have:=hn k (by omega) hk;exact Decidable.not_not.1 this
    ·obtain⟨o,ho⟩:=wK a2 (OF ops.size);have hal:a<L.size:=by rw[hz];exact a2
     have ha:a∈rs:=(mem a).2 ⟨a2,by
      rw[gq hal]at a3 ⊢;cases hx:L[a] with
      |true=>rw[hx]at a3;exact(a3 rfl).elim
      |false=>rfl,o,ho,λe he hb=>by
      have:=hlt a o ho e he hb;exact Decidable.not_not.1 (a4 e.on (by omega) this)⟩
     rw[hemp]at ha;cases ha
   exact C7 (hdone _ _ _ hi this)
  |some i=>
   dsimp only;obtain⟨m1,m2,o,ho,m3⟩:=(mem i).1 (ag hget)
   have hcnt:(L.setIfInBounds i true).toList.count false<=fuel:=by
    have:=count_set L.toList i (by simpa using m2);rw[Array.toList_setIfInBounds];omega
   obtain⟨l,h1,h2⟩:=go_sem hsize hlt hstep hdone fuel (t / rs.length) (L.setIfInBounds i true) (i::acc) (by rw[k9];exact hz) hcnt;exact⟨i::l,by rw[h1];simp,λfr Z hi=>hstep _ _ _ _ _ _ hi ho m2 m3 λfr' σ' hi'=>h2 fr' σ' hi'⟩
theorem Ns(hmix:P.follows .mixedOrders=true){id:Nat}{J:Array Bool->Fr->Sg->Prop}
  (hsize:∀L fr Z,J L fr Z->L.size=ops.size)
  (hlt:wR 0 ops.toList=true)
  (hstep:∀L fr Z i o (l:List Nat),J L fr Z->ops[i]?=some o->L[i]?=some false->(∀e∈o.after.toList,cY .any e=true->L[e.on]?=some true)->(∀fr' σ',J (L.setIfInBounds i true) fr' σ'->sJ P E ops l fr' σ' λfr Z=>Q .normal fr Z)->sJ P E ops (i::l) fr Z λfr Z=>Q .normal fr Z)
  (hdone:∀L fr Z,J L fr Z->(∀k,k<ops.size->L[k]?=some true)->Q .normal fr Z)(h0:J (dC ops.size false) fr Z):nF P E (.region id ops true) fr Z Q:=by
 refine PZ hmix λt=>?_
 have hlt':∀i o,ops[i]?=some o->∀e∈o.after.toList,cY .any e=true->e.on<i:=λi o ho e he hb=>by
  have:=pE ops.toList 0 hlt i o (by simpa using ho) e he hb;omega
 obtain⟨l,h1,h2⟩:=go_sem hsize hlt' hstep hdone ops.size t (dC ops.size false) [] (by simp) (by simp)
 have e:i7 .any ops t=l:=by
  unfold i7;rw[h1];simp
 rw[e];exact h2 _ _ h0
end
end
end Go.Ax
namespace Go.Proofs.YtmbikbgdbbcbmaaGreatDoor
open Go Go.Ax Go.AxS
section
structure JO (E:Env):Prop where
 abb:E.hspec 38=none
 YD:E.spec 38=none
 fn38:E.fn 38=some (aA Tryz.f38)
 md38:E.mode 38=.eW
 hs106:E.hspec 106=none
 sp106:E.spec 106=none
 acV:E.fn 106=some (aA Ω)
 md106:E.mode 106=.shared
 abW:E.hspec 107=none
 Zm:E.spec 107=none
 acU:E.fn 107=some (aA Tryz.f107)
 aaV:E.mode 107=.shared
 B6:E.ty 54=some { kd:=.sl 23,size:=1,bytes:=24,zero:=.aG }
 Lu:E.ty 136=some { kd:=.func,size:=1,bytes:=8,zero:=.rH }
 EB:E.ty 27=some { kd:=.ptr 100,size:=1,bytes:=8,zero:=.fV }
 VG:fP E (Φ (η [1,1,0,1,0,0] (aA Ω).code))=.no
 WJ:cK E .no (Φ (η [1,1,0,1,0,0] (aA Ω).code))=some [⟨0,2,false,true⟩,  ⟨0,3,false,true⟩]
section
variable {E:Env}{Z:Sg}{K:V->Sg->Prop}
def W8(Z:Sg)(y:aC)(bp:Nat)(p:List aC)(q:V)(Y:Sg):Prop:=
 (q=.sl bp 0 (p.length+1) none/\Y=(Z++[ζ 51 [.bool y.1,.str y.2] true]).set bp (.cells 51 (p.flatMap row++row y) false)) \/
 (q=.sl (Z.length+1) 0 (p.length+1) none/\Y=Z++[ζ 51 [.bool y.1,.str y.2] true]++[.cells 51 (p.flatMap row++row y) false])
def J8(Z : Sg)(y : aC)(bp : Nat)(p : List aC)(F : FT)(Rr : Sg -> Prop)(L : Array Bool)(fr : Fr)(Y : Sg) : Prop :=
  L.size = 6 /\ ∃ F', fr = ⟨56, F'⟩ /\ (∀ k, k < 49 -> F'.get k = F.get k) /\ (L[0]? = some true -> F'.get 49 = (V.fn 106 [] [.ref 5 0, .ref 6 0, .ref 3 0, .ref 2 0, .ref 0 0, .ref 7 0])) /\ (L[1]? = some true -> F'.get 50 = .sl bp 0 p.length none) /\ (L[2]? = some true -> F'.get 51 = iO y) /\
  ((L[3]? = some false /\ L[4]? = some false /\ L[5]? = some false /\ Y = Z) \/
   (L[2]? = some true /\ L[3]? = some true /\ L[4]? = some false /\ L[5]? = some false /\ F'.get 52 = .sl Z.length 0 1 none /\ Y = Z ++ [ζ 51 [.bool y.1, .str y.2] true]) \/
   (L[1]? = some true /\ L[2]? = some true /\ L[3]? = some true /\ L[4]? = some true /\ L[5]? = some false /\ W8 Z y bp p (F'.get 53) Y) \/
   (L[0]? = some true /\ L[1]? = some true /\ L[2]? = some true /\ L[3]? = some true /\ L[4]? = some true /\ L[5]? = some true /\ Rr Y))
theorem rO{F F':FT}{t:Nat}{v:V}(h:∀k,k<49->F'.get k=F.get k)(ht:49<=t):∀k,k<49->(FT.set F' t v).get k=F.get k:=λk hk=>by
 rw[FT.bX,an (by omega)];exact h k hk
theorem CH{Z Y:Sg}{y:aC}{bp:Nat}{p:List aC}{q:V}(hw:W8 Z y bp p q Y){k:Nat}{o:O}(hk:Z[k]?=some o)(hne:k≠bp):Y[k]?=some o:=by
 rcases hw with⟨-,rfl⟩ | ⟨-,rfl⟩
 ·rw[aa (λe=>hne e.symm)];exact aI hk
 ·exact aI (aI hk)
theorem nP(p:List aC):(p.flatMap row).length=p.length*2:=by
 induction p with
 |nil=>rfl
 |cons x p ih=>rw[fg,By,ih,IT,jg];exact lu _ _
theorem Yt(h:bG E)(hl:bv E)(pt:JO E)(he:cG κ E)(hfs:f_ κ E)(hmix:Tryz.prog.follows .mixedOrders=true){Z:Sg}{y:aC}{bp n12:Nat}{p:List aC}{cs:List V}{ex:Bool}{Rr:Sg->Prop}(b7:Z[7]?=some (.cells 136 [(V.fn 106 [] [.ref 5 0,.ref 6 0,.ref 3 0,.ref 2 0,.ref 0 0,.ref 7 0])] true))(b12:Z[n12]?=some (ζ 51 [.bool y.1,.str y.2] true))(hbp:Z[bp]?=some (.cells 51 cs ex))(hcs:cs.take (p.length*2)=p.flatMap row)(h8:8<=bp)(hn:n12≠bp)(hpl:p.length<=100000)
  (F:FT)(g0:F.get 0=.sl bp 0 p.length none)(g6:F.get 6=.ref 7 0)(g12:F.get 12=.ref n12 0)
  (hcall:∀q Y,W8 Z y bp p q Y->qZ κ E 106 [q,.ref 5 0,.ref 6 0,.ref 3 0,.ref 2 0,.ref 0 0,.ref 7 0] Y λv τ'=>v=.fR []/\Rr τ') :
  nF κ E (.region 8 (Φ (η [1,1,1,1,2,2,1,1,0,2,1] (aA Ω).code)) true) ⟨56,F⟩ Z λx fr Y=>x=.normal/\∃F',fr=⟨56,F'⟩/\(∀k,k<49->F'.get k=F.get k)/\Rr Y:=by
 have hsz:(Φ (η [1,1,1,1,2,2,1,1,0,2,1] (aA Ω).code)).size=6:=by kernel_rfl
 refine Ns hmix (J:=J8 Z y bp p F Rr) (λL fr Y hj=>by rw[hsz];exact hj.1) (by kernel_rfl) ?_ ?_ ?_
 ·rintro L fr Y i o l ⟨hz,F',rfl,hF,k0,k1,k2,kk⟩ ho hL hE hnx;have hi:i<6:=by rw[<- hsz];exact L_ ho
  have ho':=ho;have q0:F'.get 0=.sl bp 0 p.length none:=(hF 0 (by omega)).trans g0;have q6:F'.get 6=.ref 7 0:=(hF 6 (by omega)).trans g6;have L9:F'.get 12=.ref n12 0:=(hF 12 (by omega)).trans g12
  have gt:∀(k:Nat)(o:O),k≠bp->(∃j,j<6/\L[j]?=some false)->Z[k]?=some o->Y[k]?=some o:=λk o hk h5 hs=>by
   rcases kk with⟨-,-,-,rfl⟩ | ⟨-,-,-,-,-,rfl⟩ | ⟨-,-,-,-,-,hw⟩ | ⟨a0,a1,a2,a3,a4,a5,-⟩
   ·exact hs
   ·exact aI hs
   ·exact CH hw hs hk
   ·obtain⟨j,hj,hf⟩:=h5;have:j=0\/j=1\/j=2\/j=3\/j=4\/j=5:=by omega
    rcases this with rfl | rfl | rfl | rfl | rfl | rfl
    ·rw[a0]at hf;cases hf
    ·rw[a1]at hf;cases hf
    ·rw[a2]at hf;cases hf
    ·rw[a3]at hf;cases hf
    ·rw[a4]at hf;cases hf
    ·rw[a5]at hf;cases hf
  have t7:=gt 7 _ (by omega) ⟨i,hi,hL⟩ b7;have t12:=gt n12 _ hn ⟨i,hi,hL⟩ b12;have hi':i=0\/i=1\/i=2\/i=3\/i=4\/i=5:=by omega
  rcases hi' with rfl | rfl | rfl | rfl | rfl | rfl
  ·simp only[aA,Ω,η,Φ,ay,cn,bh]at ho;obtain rfl:=dh ho;refine pT he hfs hmix (n:=0) (frz:=.no) (v:=(V.fn 106 [] [.ref 5 0,.ref 6 0,.ref 3 0,.ref 2 0,.ref 0 0,.ref 7 0])) (σ1:=Y) ho' rfl ?_ (hnx _ _ ?_)
   ·simp only[KP,ι,↓reduceIte,ε,lP,aT,pt.Lu,q6,t7]
   ·have e49:(FT.set F' 49 (V.fn 106 [] [.ref 5 0,.ref 6 0,.ref 3 0,.ref 2 0,.ref 0 0,.ref 7 0])).get 49=(V.fn 106 [] [.ref 5 0,.ref 6 0,.ref 3 0,.ref 2 0,.ref 0 0,.ref 7 0]):=by rw[FT.bX,az rfl]
    have e:∀t,t≠49->(FT.set F' 49 (V.fn 106 [] [.ref 5 0,.ref 6 0,.ref 3 0,.ref 2 0,.ref 0 0,.ref 7 0])).get t=F'.get t:=λt ht=>by rw[FT.bX,an ht]
    refine⟨by rw[k9];exact hz,FT.set F' 49 (V.fn 106 [] [.ref 5 0,.ref 6 0,.ref 3 0,.ref 2 0,.ref 0 0,.ref 7 0]),by simp only[cW,Ax.Fr.u_,ε,bf],rO hF (by omega),?_⟩;simp only[iz,hz,ε,δ,↓reduceIte];rw[e 50 (by omega),e 51 (by omega),e 52 (by omega),e 53 (by omega)];exact⟨λ_=>e49,k1,k2,kk.elim (λa=>.inl a) λa=>a.elim (λa=>.inr (.inl a)) λa=>a.elim (λa=>.inr (.inr (.inl a))) λ⟨a,_⟩=>(by rw[hL]at a;cases a)⟩
  ·simp only[aA,Ω,η,Φ,ay,cn,bh,cm]at ho;obtain rfl:=dh ho;refine pT he hfs hmix (n:=0) (frz:=.no) (v:=(.sl bp 0 p.length none)) (σ1:=Y) ho' rfl ?_ (hnx _ _ ?_)
   ·simp only[KP,↓reduceIte,ε,lP,aT,q0]
   ·have e50:(FT.set F' 50 (.sl bp 0 p.length none)).get 50=(.sl bp 0 p.length none):=by rw[FT.bX,az rfl]
    have e:∀t,t≠50->(FT.set F' 50 (.sl bp 0 p.length none)).get t=F'.get t:=λt ht=>by rw[FT.bX,an ht]
    refine⟨by rw[k9];exact hz,FT.set F' 50 (.sl bp 0 p.length none),by simp only[cW,Ax.Fr.u_,ε,bf],rO hF (by omega),?_⟩;simp only[iz,hz,ε,δ,↓reduceIte];rw[e 49 (by omega),e 51 (by omega),e 52 (by omega),e 53 (by omega)];exact⟨k0,λ_=>e50,k2,kk.elim (λa=>.inl a) λa=>a.elim (λa=>.inr (.inl a)) λa=>a.elim (λ⟨a,_⟩=>(by rw[hL]at a;cases a)) λ⟨_,a,_⟩=>(by rw[hL]at a;cases a)⟩
  ·simp only[aA,Ω,η,Φ,ay,cn,bh,cm]at ho;obtain rfl:=dh ho;refine pT he hfs hmix (n:=0) (frz:=.no) (v:=(iO y)) (σ1:=Y) ho' rfl ?_ (hnx _ _ ?_)
   ·simp only[KP,ι,↓reduceIte,ε,μ,h.bU,lP,aT,L9,t12,iO]
   ·have e51:(FT.set F' 51 (iO y)).get 51=(iO y):=by rw[FT.bX,az rfl]
    have e:∀t,t≠51->(FT.set F' 51 (iO y)).get t=F'.get t:=λt ht=>by rw[FT.bX,an ht]
    refine⟨by rw[k9];exact hz,FT.set F' 51 (iO y),by simp only[cW,Ax.Fr.u_,ε,bf],rO hF (by omega),?_⟩;simp only[iz,hz,ε,δ,↓reduceIte];rw[e 49 (by omega),e 50 (by omega),e 52 (by omega),e 53 (by omega)];exact⟨k0,k1,λ_=>e51,kk.elim (λa=>.inl a) λa=>a.elim (λ⟨a,_⟩=>(by rw[hL]at a;cases a)) λa=>a.elim (λ⟨_,a,_⟩=>(by rw[hL]at a;cases a)) λ⟨_,_,a,_⟩=>(by rw[hL]at a;cases a)⟩
  ·simp only[aA,Ω,η,Φ,ay,cn,bh,cm]at ho;obtain rfl:=dh ho;have a2:=hE ⟨2,.data⟩ (by simp) rfl;have q51:=k2 a2
   have hk:L[4]?=some false/\L[5]?=some false/\Y=Z:=by
    rcases kk with⟨-,b1,b2,b3⟩ | ⟨-,a,-⟩ | ⟨-,-,a,-⟩ | ⟨-,-,-,a,-⟩
    ·exact⟨b1,b2,b3⟩
    ·rw[hL]at a;cases a
    ·rw[hL]at a;cases a
    ·rw[hL]at a;cases a
   obtain⟨h4,h5,rfl⟩:=hk;refine pT he hfs hmix (n:=0) (frz:=.no) (v:=.sl Y.length 0 1 none) (σ1:=Y++[ζ 51 [.bool y.1,.str y.2] true]) ho' rfl ?_ (hnx _ _ ?_)
   ·simp only[KP,↓reduceIte,ε,ω,ap,h.fF,h.bU,lP,aT,q51,iO,fM,Fz.lits]
   ·have e52:(FT.set F' 52 (.sl Y.length 0 1 none)).get 52=.sl Y.length 0 1 none:=by rw[FT.bX,az rfl]
    have e:∀t,t≠52->(FT.set F' 52 (.sl Y.length 0 1 none)).get t=F'.get t:=λt ht=>by rw[FT.bX,an ht]
    refine⟨by rw[k9];exact hz,FT.set F' 52 (.sl Y.length 0 1 none),by simp only[cW,Ax.Fr.u_,ε,bf],rO hF (by omega),?_⟩;simp only[iz,hz,ε,δ,↓reduceIte];rw[e 49 (by omega),e 50 (by omega),e 51 (by omega),e 53 (by omega),e52];exact⟨k0,k1,k2,.inr (.inl ⟨a2,trivial,h4,h5,rfl,trivial⟩)⟩
  ·simp only[aA,Ω,η,Φ,ay,cn,bh,cm]at ho;obtain rfl:=dh ho;have a1:=hE ⟨1,.data⟩ (by simp) rfl;have a3:=hE ⟨3,.data⟩ (by simp) rfl;have Vj:=k1 a1
   have hk:L[2]?=some true/\L[5]?=some false/\F'.get 52=.sl Z.length 0 1 none/\Y=Z++[ζ 51 [.bool y.1,.str y.2] true]:=by
    rcases kk with⟨a,-⟩ | ⟨b0,-,-,b2,b3,b4⟩ | ⟨-,-,-,a,-⟩ | ⟨-,-,-,-,a,-⟩
    ·rw[a3]at a;cases a
    ·exact⟨b0,b2,b3,b4⟩
    ·rw[hL]at a;cases a
    ·rw[hL]at a;cases a
   obtain⟨a2,h5,ZO,rfl⟩:=hk
   have hcl:p.length*2<=cs.length:=by
    have:=b8 df hcs;rw[bl,nP]at this;omega
   have hel:elems (Z++[ζ 51 [.bool y.1,.str y.2] true]) 2 (.sl Z.length 0 1 none)=some (row y,1):=by
    simp only[elems,aL];rfl
   have nx:∀q τ',W8 Z y bp p q τ'->sJ κ E (Φ (η [1,1,1,1,2,2,1,1,0,2,1] (aA Ω).code)) l (cW ⟨56,F'⟩ (some 53) q) τ' λfr Y=>(λx fr Y=>x=Ax.X.normal/\∃F',fr=⟨56,F'⟩/\(∀k,k<49->F'.get k=F.get k)/\Rr Y) Ax.X.normal fr Y:=λq τ' hw=>by
    refine hnx _ _ ?_;have e53:(FT.set F' 53 q).get 53=q:=by rw[FT.bX,az rfl]
    have e:∀t,t≠53->(FT.set F' 53 q).get t=F'.get t:=λt ht=>by rw[FT.bX,an ht]
    refine⟨by rw[k9];exact hz,FT.set F' 53 q,by simp only[cW,Ax.Fr.u_,ε,bf],rO hF (by omega),?_⟩;simp only[iz,hz,ε,δ,↓reduceIte];rw[e 49 (by omega),e 50 (by omega),e 51 (by omega),e 52 (by omega),e53];exact⟨k0,k1,k2,.inr (.inr (.inl ⟨a1,a2,a3,trivial,h5,hw⟩))⟩
   refine P3 he (st:=23) (e:=51) (n:=1) (b:=bp) (off:=0) (len:=p.length) (x:=.tmp 50) (y:=.tmp 52) (cs:=cs) (new:=row y) ho' rfl rfl ?_ ?_ rfl hl.fF rfl hl.bU ?_ (by decide) hel (aI hbp) ?_ ?_ ?_ ?_
   ·simp only[aS,Ax.Fr.vO,ε,bf,Vj]
   ·simp only[aS,Ax.Fr.vO,ε,bf,ZO]
   ·unfold eD;simp only[cn,cm,bh,hl.fF];rfl
   ·show 0+p.length*2<=cs.length;omega
   ·exact dO (b:=100001) (by decide) (by omega)
   ·have e:cs.take (0+p.length*2)=p.flatMap row:=by rw[dc];exact hcs
    show sJ _ _ _ _ _ ((Z++[ζ 51 [.bool y.1,.str y.2] true]).set bp (.cells 51 (cs.take (0+p.length*2)++row y) false)) _;rw[e];exact nx _ _ (.inl ⟨rfl,rfl⟩)
   ·have e:(cs.drop 0).take (p.length*2)=p.flatMap row:=hcs;show sJ _ _ _ _ _ ((Z++[ζ 51 [.bool y.1,.str y.2] true])++[.cells 51 ((cs.drop 0).take (p.length*2)++row y) false]) _;rw[e];refine nx _ _ (.inr ⟨?_,rfl⟩);rw[By];rfl
  ·simp only[aA,Ω,η,Φ,ay,cn,bh,cm]at ho;obtain rfl:=dh ho;have a0:=hE ⟨0,.data⟩ (by simp) rfl;have a4:=hE ⟨4,.data⟩ (by simp) rfl;have q49:=k0 a0
   have hk:L[1]?=some true/\L[2]?=some true/\L[3]?=some true/\W8 Z y bp p (F'.get 53) Y:=by
    rcases kk with⟨-,a,-⟩ | ⟨-,-,a,-⟩ | ⟨b1,b2,b3,-,-,b4⟩ | ⟨-,-,-,-,-,a,-⟩
    ·rw[a4]at a;cases a
    ·rw[a4]at a;cases a
    ·exact⟨b1,b2,b3,b4⟩
    ·rw[hL]at a;cases a
   obtain⟨a1,a2,a3,hw⟩:=hk;refine Fc (f:=.tmp 49) (args:=#[.tmp 53]) (l':=[F'.get 53]) ho' rfl rfl (k:=106) (first:=[]) (cap:=[.ref 5 0,.ref 6 0,.ref 3 0,.ref 2 0,.ref 0 0,.ref 7 0]) ?_ ?_ (hcall _ _ hw) ?_
   ·simp only[aS,Ax.Fr.vO,ε,bf,q49]
   ·simp only[eJ,aS,Ax.Fr.vO,ε,bf]
   ·rintro v τ' ⟨rfl,hR⟩;refine hnx _ _ ?_;have e:∀t,t≠54->(FT.set F' 54 (.fR [])).get t=F'.get t:=λt ht=>by rw[FT.bX,an ht]
    refine⟨by rw[k9];exact hz,FT.set F' 54 (.fR []),by simp only[cW,Ax.Fr.u_,ε,bf],rO hF (by omega),?_⟩;simp only[iz,hz,ε,δ,↓reduceIte];rw[e 49 (by omega),e 50 (by omega),e 51 (by omega),e 52 (by omega),e 53 (by omega)];exact⟨k0,k1,k2,.inr (.inr (.inr ⟨a0,a1,a2,a3,a4,trivial,hR⟩))⟩
 ·rintro L fr Y ⟨hz,F',rfl,hF,k0,k1,k2,kk⟩ hall;have h5:=hall 5 (by rw[hsz];omega);rcases kk with⟨-,-,a,-⟩ | ⟨-,-,-,a,-⟩ | ⟨-,-,-,-,a,-⟩ | ⟨-,-,-,-,-,-,hR⟩
  ·rw[h5]at a;cases a
  ·rw[h5]at a;cases a
  ·rw[h5]at a;cases a
  ·exact⟨rfl,F',rfl,hF,hR⟩
 ·rw[hsz];exact⟨rfl,F,rfl,λ_ _=>rfl,λe=>(by cases e),λe=>(by cases e),λe=>(by cases e),.inl ⟨rfl,rfl,rfl,rfl⟩⟩
def Lg(t:Nat)(Z:Sg)(w:V)(vs:List V):Prop:=(w=.aG/\vs=[])\/vs≠[]/\∃b,w=.sl b 0 vs.length none/\Z[b]?=some (.cells t vs false)
theorem Lg.keep{t:Nat}{Z σ':Sg}{w:V}{vs:List V}(h:Lg t Z w vs)(k:∀c o,aO w=some c->Z[c]?=some o->σ'[c]?=some o):Lg t σ' w vs:=by
 rcases h with h | ⟨hn,b,rfl,hb⟩
 ·exact .inl h
 ·exact .inr ⟨hn,b,rfl,k b _ rfl hb⟩
theorem Sb{si ei:Ty}{ts t:Nat}{ats:Array Nat}{w x u:V}{vs:List V}(hts:E.ty ts=some si)(hk:si.kd=.sl t)(ht:E.ty t=some ei)(hn:ei.size=1)(hpl:eD E ats=true)(hats:ats[0]?=some ts)(h:Lg t Z w vs)
  (hx:elems Z 1 x=some ([u],1))(hr:roomy (vs.length+1) ei.bytes=true) :
  ∃w' σ',append E Z ats w x=some (w',σ')/\Lg t σ' w' (vs++[u])/\Sp Z σ' w/\Z.length<=σ'.length/\∀b,aO w'=some b->Z.length<=b:=by
 obtain⟨kd,size,bytes,zero⟩:=si;replace hk:kd=.sl t:=hk;subst hk;have hne:(ei.size==0)=false:=by rw[hn];rfl
 have hr2:pV 1 ei.bytes=true:=AN hr (by omega);have hx:elems Z ei.size x=some ([u],1):=by rw[hn];exact hx
 unfold append;simp only[hats,hts,ht,hpl,hne,hx,dm,j8,ai,b9];rcases h with⟨rfl,rfl⟩ | ⟨hn0,b,rfl,hbk⟩
 ·simp only[Nat.one_ne_zero,b9,hr2,bf];refine⟨_,_,rfl,.inr ⟨by simp,Z.length,rfl,by simp⟩,λc o e _=>?_,by simp,λb e=>by cases e;exact OF _⟩;rw[au (AI.1 e).1];exact e
 ·have hlt:=(AI.1 hbk).1
  have hform:(t==t&&decide (vs.length*ei.size<=vs.length)&&roomy (vs.length+1) ei.bytes)=true:=by
   rw[hr,hn];simp
  have hbig:¬ (vs.length+1)*ei.size<=vs.length:=by rw[hn];omega
  have htk:vs.take (vs.length*ei.size)=vs:=ah (by rw[hn];omega);simp only[hbk,dc,hform,dm,ai,b9,hbig,bf,htk,ez];refine⟨_,_,rfl,.inr ⟨by simp,Z.length,by simp,by simp⟩,λc o e hne=>?_,by simp,λb e=>by cases e;exact OF _⟩;have hc:=(AI.1 e).1;rw[au (by simpa using hc),aa (λe2=>hne (by rw[e2];rfl))];exact e
def JE(Z:Sg)(w:V)(U:Nat->Prop)(l:List (List aC)):Prop:=∃us,Lg 23 Z w us/\(∀b,aO w=some b->U b)/\eL (λu p=>∃bu,u=.sl bu 0 p.length none/\U bu/\p≠[]/\Z[bu]?=some (.cells 51 (p.flatMap row) false)) us l
theorem JE.keep{Z σ':Sg}{w:V}{U U':Nat->Prop}{l:List (List aC)}(h:JE Z w U l)(k:∀c o,U c->Z[c]?=some o->σ'[c]?=some o)(hu:∀c,U c->U' c):JE σ' w U' l:=by
 obtain⟨us,h1,h2,h3⟩:=h;exact⟨us,h1.keep λc o hc=>k c o (h2 c hc),λb hb=>hu b (h2 b hb),h3.imp λu p ⟨bu,e1,e2,e3,e4⟩=>⟨bu,e1,hu _ e2,e3,k _ _ e2 e4⟩⟩
structure Bx (Z:Sg) (M:List (aC × Nat)) (many:Nat) (b:aC) (g:V):Prop where
 b5:Z[5]?=some (.cells 131 [.imp false (M.map dV)] true)
 b3:Z[3]?=some (.cells 3 [.int .i64 (many:Int)] true)
 b2:Z[2]?=some (ζ 51 [.bool b.1,.str b.2] true)
 b0:Z[0]?=some (.cells 27 [g] true)
 b7:Z[7]?=some (.cells 136 [(V.fn 106 [] [.ref 5 0,.ref 6 0,.ref 3 0,.ref 2 0,.ref 0 0,.ref 7 0])] true)
theorem Bx.keep{Z σ':Sg}{M:List (aC × Nat)}{many:Nat}{b:aC}{g:V}(h:Bx Z M many b g)(k:∀c o,c<8->c≠6->Z[c]?=some o->σ'[c]?=some o):Bx σ' M many b g:=
 ⟨k _ _ (by omega) (by omega) h.b5,k _ _ (by omega) (by omega) h.b3,k _ _ (by omega) (by omega) h.b2,k _ _ (by omega) (by omega) h.b0,k _ _ (by omega) (by omega) h.b7⟩
def Lf(Z:Sg)(bp:Nat)(p:List aC):Prop:=∃cs ex,Z[bp]?=some (.cells 51 cs ex)/\cs.take (p.length*2)=p.flatMap row
theorem Lf.ls{Z:Sg}{bp:Nat}{p:List aC}(h:Lf Z bp p):LS cN 51 Z (.sl bp 0 p.length none) p:=by
 obtain⟨cs,ex,h1,h2⟩:=h;have e:p.flatMap row=(p.map row).flatten:=by rw[List.flatMap_def]
 exact .inr ⟨bp,cs,ex,p.map row,rfl,h1,v_ p,by rw[<- e];exact h2⟩
structure JA (Z:Sg) (M:List (aC × Nat)) (many:Nat) (b:aC) (g:V) (bp:Nat) (p:List aC) (w:V) (U:Nat->Prop) (out:List (List aC)):Prop where
 bx:Bx Z M many b g
 b6:Z[6]?=some (.cells 54 [w] true)
 ou:JE Z w U out
 hp:Lf Z bp p
 h8:8<=bp
 nU:¬ U bp
 U8:∀k,U k->8<=k/\k<Z.length
theorem JA.app{Z:Sg}{M:List (aC × Nat)}{many:Nat}{b:aC}{g:V}{bp:Nat}{p:List aC}{w:V}{U:Nat->Prop}{out:List (List aC)}(h:JA Z M many b g bp p w U out)(Y:Sg):JA (Z++Y) M many b g bp p w U out:=by
 have k:∀(c:Nat)(o:O),Z[c]?=some o->(Z++Y)[c]?=some o:=λc o e=>by
  rw[au (AI.1 e).1];exact e
 obtain⟨cs,ex,h1,h2⟩:=h.hp;exact⟨h.bx.keep λc o _ _=>k c o,k _ _ h.b6,h.ou.keep (λc o _=>k c o) λ_=>id,⟨cs,ex,k _ _ h1,h2⟩,h.h8,h.nU,λc hc=>⟨(h.U8 c hc).1,by rw[By];have:=(h.U8 c hc).2;omega⟩⟩
def Rw(Z:Sg)(M:List (aC × Nat))(many:Nat)(b:aC)(g:V)(U:Nat->Prop)(bp:Nat)(p:List aC)(out:List (List aC))(Y:Sg):Prop:=
 Z.length<=Y.length/\(∀k o,Z[k]?=some o->k≠6->k≠bp->¬ U k->Y[k]?=some o)/\∃w' U',JA Y M many b g bp p w' U' out/\∀k,U' k->U k\/Z.length<=k
theorem Rw.refl{Z:Sg}{M:List (aC × Nat)}{many:Nat}{b:aC}{g:V}{bp:Nat}{p:List aC}{w:V}{U:Nat->Prop}{out:List (List aC)}(h:JA Z M many b g bp p w U out):Rw Z M many b g U bp p out Z:=⟨OF _,λ_ _ h _ _ _=>h,w,U,h,λk hk=>.inl hk⟩
theorem Rw.trans{Z Y ρ:Sg}{M:List (aC × Nat)}{many:Nat}{b:aC}{g:V}{bp:Nat}{p:List aC}{U U':Nat->Prop}{out:List (List aC)}(hlen:Z.length<=Y.length)(hfr:∀k o,Z[k]?=some o->k≠6->k≠bp->¬ U k->Y[k]?=some o)(hU:∀k,U' k->U k\/Z.length<=k)(h:Rw Y M many b g U' bp p out ρ):Rw Z M many b g U bp p out ρ:=by
 obtain⟨h1,h2,w,U2,h3,h4⟩:=h;refine⟨e8 hlen h1,λk o hk k6 kb kU=>h2 k o (hfr k o hk k6 kb kU) k6 kb λhu=>?_,w,U2,h3,λk hk=>?_⟩
 ·rcases hU k hu with g | g
  ·exact kU g
  ·have:=(AI.1 hk).1;omega
 ·rcases h4 k hk with g | g
  ·exact hU k g
  ·exact .inr (by omega)
theorem Uo(hl:bv E){b n:Nat}{c:Option Nat}:mM E 23 true (.sl b 0 n c) .aG=some false:=by unfold mM;rw[hl.fF]
theorem BF(hl:bv E):eD E #[23,23]=true:=by
 unfold eD;simp only[hl.fF,cn,cm,bh];rfl
theorem R3(h:bG E)(hl:bv E)(pt:JO E){bp:Nat}{p:List aC}(hp:Lf Z bp p)(hne:p≠[])(hpl:p.length<=100000):aB E 107 [.sl bp 0 p.length none] Z K=K (.sl (Z.length+1) 0 p.length none) (Z++[.cells 51 [] true]++[.cells 51 (p.flatMap row) false]):=by
 refine aB.of ?_;rw[cJ pt.abW pt.Zm pt.acU pt.aaV,aU (by kernel_rfl)];obtain⟨cs,ex,hb,hcs⟩:=hp;have hp1:=ej.2 hne
 have hcl:p.length*2<=cs.length:=by
  have:=b8 df hcs;rw[bl,nP]at this;omega
 have hb1:(Z++[ζ 51 [] true])[bp]?=some (.cells 51 cs ex):=aI hb
 have hel:elems (Z++[ζ 51 [] true]) 2 (.sl bp 0 p.length none)=some (p.flatMap row,p.length):=by
  unfold elems;simp only[hb1,dc,ez];rw[az hcl,hcs]
 have hr:roomy (0+p.length) 24=true:=dO (b:=100000) (by decide) (by omega)
 have happ:append E (Z++[ζ 51 [] true]) #[23,23] (.sl Z.length 0 0 none) (.sl bp 0 p.length none)=some (.sl (Z.length+1) 0 p.length none,Z++[.cells 51 [] true]++[.cells 51 (p.flatMap row) false]):=by
  unfold append;simp only[cn,bh,hl.fF,hl.bU,BF hl,hel,dm,aL,gz,l6,OF,hr,qi,qf,qa,ai,b9,aq];have e0:((2:Nat)==0)=false:=rfl;simp only[e0,bf,mc,List.take_nil,cz,dc,By,IT,aq];have e2:¬ (p.length*2<=0):=by omega
  simp only[j8,ai,b9,e2]
 simp only[aA,Tryz.f107,KP,↓reduceIte,δ,ε,ω,reduceCtorEq,h.fF,h.bU,Uo hl,happ,Ax.fill,gG,gz]
theorem NC(pt:JO E):eD E #[54,54]=true:=by
 unfold eD;simp only[pt.B6,cn,cm,bh];rfl
theorem Xt{b n:Nat}:Ax.fill (λj=>some (j*1,1)) (gG 1 [V.aG]) [(0,V.sl b 0 n none)]=some [V.sl b 0 n none]:=rfl
theorem Ac{Z:Sg}{y:O}{k:Nat}{o:O}(h:Z[k]?=some o)(hk:k≠6):(Z.set 6 y)[k]?=some o:=by
 rw[aa (λe=>hk e.symm)];exact h
theorem Yu(h:bG E)(hl:bv E)(pt:JO E){Z:Sg}{M:List (aC × Nat)}{many:Nat}{b:aC}{g:V}{bp:Nat}{p:List aC}{w:V}{U:Nat->Prop}{out:List (List aC)}(s:JA Z M many b g bp p w U out)(hne:p≠[])(hpl:p.length<=100000)(hout:out.length<=1000)
  (F:FT)(g0:F.get 0=.sl bp 0 p.length none)(g2:F.get 2=.ref 6 0){st:List iT}{Q:io->Fr->Sg->Prop}(hk:∀F' Y,Rw Z M many b g U bp p (out++[p]) Y->Ax.M E st .normal ⟨56,F'⟩ Y Q):Ax.R E (.region 4 (Φ (η [1,1,0,1,0,0] (aA Ω).code)) true) st ⟨56,F⟩ Z Q:=by
 obtain⟨us,ow,hwU,hus⟩:=s.ou;have hul:=hus.len;have b6:=s.b6;have h8:=s.h8;obtain⟨n,v,Y,⟨e1,e2⟩,c1⟩:=aB.up (show aB E 107 [.sl bp 0 p.length none] Z λv Y=>v=(V.sl (Z.length+1) 0 p.length none)/\Y=(Z++[ζ 51 [] true]++[ζ 51 (p.flatMap row) false]) by rw[R3 h hl pt s.hp hne hpl];exact⟨rfl,rfl⟩);have c1:=c1 n (OF _);rw[e1,e2]at c1;clear e1 e2;have k1:∀(c:Nat)(o:O),Z[c]?=some o->((Z++[ζ 51 [] true]++[ζ 51 (p.flatMap row) false]))[c]?=some o:=λc o e=>aI (aI e);have k2:∀(c:Nat)(o:O),Z[c]?=some o->(((Z++[ζ 51 [] true]++[ζ 51 (p.flatMap row) false])++[ζ 23 [(V.sl (Z.length+1) 0 p.length none)] true]))[c]?=some o:=λc o e=>aI (k1 c o e);have hlen:((Z++[ζ 51 [] true]++[ζ 51 (p.flatMap row) false])).length=Z.length+2:=by simp only[By,IT,aq]
 have hclone:((Z++[ζ 51 [] true]++[ζ 51 (p.flatMap row) false]))[Z.length+1]?=some (.cells 51 (p.flatMap row) false):=by
  rw[bg (by rw[By];exact OF _),By];simp
 obtain⟨w',τ',h1,h2,h3,h4,h5⟩:=Sb (E:=E) (ats:=#[54,54]) (Z:=((Z++[ζ 51 [] true]++[ζ 51 (p.flatMap row) false])++[ζ 23 [(V.sl (Z.length+1) 0 p.length none)] true])) (w:=w) (x:=.sl ((Z++[ζ 51 [] true]++[ζ 51 (p.flatMap row) false])).length 0 1 none) (u:=(V.sl (Z.length+1) 0 p.length none)) (vs:=us) pt.B6 rfl hl.fF rfl (NC pt) rfl (ow.keep λc o _ e=>k2 c o e) (mI (r:=[(V.sl (Z.length+1) 0 p.length none)]) rfl) (dO (b:=1001) (by decide) (by omega));have b61:=k1 _ _ b6;have b62:=k2 _ _ b6;have w6:aO w≠some 6:=λe=>by have:=s.U8 6 (hwU 6 e);omega
 have b63:=h3 _ _ b62 w6;have hlt6:=(AI.1 b63).1
 have vw:sO 12 w w=true:=by
  rcases ow with⟨rfl,-⟩ | ⟨-,bo,rfl,-⟩
  ·rfl
  ·exact O_ 11 _ _ _
 have wok:w'.aZ=true/\w'.cells=[w']:=by
  rcases h2 with⟨rfl,-⟩ | ⟨-,bo,rfl,-⟩ <;> exact⟨rfl,rfl⟩
 obtain⟨wk1,wk2⟩:=wok
 have key:∃F',cP E (ev E n) (Φ (η [1,1,0,1,0,0] (aA Ω).code)) ⟨56,F⟩ Z=some (⟨56,F'⟩,τ'.set 6 (.cells 54 [w'] true)):=by
  unfold cP;rw[pt.VG,pt.WJ];simp only[aA,Ω,KP,ι,Ξ,↓reduceIte,δ,ε,ω,μ,ap,reduceCtorEq,h.fF,Φ,η,Fz.lits,Fz.apps,iQ,bN,cE,lD,Ax.comp,Ax.last,iM,Ax.again,pt.B6,g0,g2,b6,b61,b62,b63,c1,Xt,h1,vw,wk1,wk2];exact⟨_,rfl⟩
 obtain⟨F',hD⟩:=key;refine Eq.mpr (iW hD) (hk F' _ ?_)
 have keep:∀(k:Nat)(o:O),Z[k]?=some o->k≠6->¬ U k->(τ'.set 6 (.cells 54 [w'] true))[k]?=some o:=λk o hk k6 kU=>
  Ac (h3 _ _ (k2 _ _ hk) λe=>kU (hwU k e)) k6
 have hcl2:(τ'.set 6 (.cells 54 [w'] true))[Z.length+1]?=some (.cells 51 (p.flatMap row) false):=by
  have h6:=(AI.1 b6).1;refine Ac (h3 _ _ (aI hclone) λe=>?_) (by omega);have:=(s.U8 _ (hwU _ e)).2;omega
 obtain⟨cs,ex,p1,p2⟩:=s.hp;refine⟨?_,λk o hk k6 _ kU=>keep k o hk k6 kU,w',λk=>U k\/Z.length<=k/\k<τ'.length,⟨s.bx.keep λc o hc c6 e=>keep c o e c6 λhu=>by have:=s.U8 c hu;omega,by rw[br hlt6],⟨us++[(V.sl (Z.length+1) 0 p.length none)],?_,?_,?_⟩,⟨cs,ex,keep _ _ p1 (by omega) s.nU,p2⟩,h8,?_,?_⟩,?_⟩
 ·rw[dy];have:=h4;rw[By,hlen]at this;omega
 ·refine h2.keep λc o hc e=>Ac e λe6=>?_;have:=h5 c hc;rw[By,hlen]at this;have h6:=(AI.1 b6).1;omega
 ·intro c hc;have:=h5 c hc;rw[By,hlen]at this;refine .inr ⟨by omega,?_⟩;rcases h2 with⟨rfl,-⟩ | ⟨-,bo,rfl,hbo⟩
  ·cases hc
  ·cases hc;exact(AI.1 hbo).1
 ·refine eL.append ?_ (.one ⟨_,rfl,.inr ⟨by omega,?_⟩,hne,hcl2⟩)
  ·refine hus.imp λu q ⟨bu,e1,e2,e3,e4⟩=>⟨bu,e1,.inl e2,e3,?_⟩;refine Ac (h3 _ _ (k2 _ _ e4) λe=>?_) (by have:=s.U8 bu e2;omega);rcases ow with⟨rfl,-⟩ | ⟨-,bo,rfl,hbo⟩
   ·cases e
   ·cases e;rw[hbo]at e4;cases e4
  ·have:=(AI.1 hcl2).1;rw[dy]at this;exact this
 ·rintro (hu | hu)
  ·exact s.nU hu
  ·have:=(AI.1 p1).1;omega
 ·rintro k (hu | ⟨hu,hu2⟩)
  ·have:=s.U8 k hu;rw[dy];have h4':=h4;rw[By,hlen]at h4';omega
  ·have h6:=(AI.1 s.bx.b7).1;rw[dy];omega
 ·rintro k (hu | ⟨hu,-⟩)
  ·exact .inl hu
  ·exact .inr hu
theorem QN(pt:JO E){Z:Sg}{w:V}{us:List V}(hl:bv E)(h:Lg 23 Z w us):lenOf E Z 54 w=some us.length:=by
 unfold lenOf;simp only[pt.B6];rcases h with⟨rfl,rfl⟩ | ⟨-,b,rfl,-⟩ <;> rfl
structure WF (F:FT) (bp n:Nat):Prop where
 g0:F.get 0=.sl bp 0 n none
 g1:F.get 1=.ref 5 0
 g2:F.get 2=.ref 6 0
 g3:F.get 3=.ref 3 0
 g4:F.get 4=.ref 2 0
 g5:F.get 5=.ref 0 0
 g6:F.get 6=.ref 7 0
theorem WF.keep{F F':FT}{bp n:Nat}(h:WF F bp n)(k:∀t,t<49->F'.get t=F.get t):WF F' bp n:=⟨(k 0 (by omega)).trans h.g0,(k 1 (by omega)).trans h.g1,(k 2 (by omega)).trans h.g2,(k 3 (by omega)).trans h.g3,(k 4 (by omega)).trans h.g4,(k 5 (by omega)).trans h.g5,(k 6 (by omega)).trans h.g6⟩
theorem TH{p:List aC}(hne:p≠[]){x:aC}(hx:p[p.length-1]?=some x)(h:bG E)(hl:bv E){Z:Sg}{bp:Nat}(hp:Lf Z bp p):∃pa,indexAddr E 23 (.sl bp 0 p.length none) (.int .i64 ((p.length-1:Nat):Int))=some pa/\loadAt E Z 51 pa=some (.agg [.bool x.1,.str x.2]):=by
 obtain⟨pa,r,e1,e2,e3,-,-⟩:=Eo hl.fF rfl hl.bU rfl hp.ls hx;refine⟨pa,e1,?_⟩;have e2:r=row x:=e2;rw[e3 rfl,e2];rfl
theorem OX(h:bG E)(h':mL E)(hl:bv E)(q:uM E)(tr:Bo E)(pt:JO E)(he:cG κ E)(hfs:f_ κ E)(hmix:Tryz.prog.follows .mixedOrders=true){M:List (aC × Nat)}{many:Nat}{b:aC}{g:V}{bp:Nat}{p:List aC}{w:V}{U:Nat->Prop}{out:List (List aC)}{Z:Sg}(s:JA Z M many b g bp p w U out)(hne:p≠[])(hpl:p.length<=100000){x:aC}(hx:p[p.length-1]?=some x)(F:FT)(wf:WF F bp p.length){Q:io->Fr->Sg->Prop}
  (hk:∀F',WF F' bp p.length->F'.get 8=.ref Z.length 0->Q .normal ⟨56,F'⟩ (Z++[ζ 51 [.bool x.1,.str x.2] true])):nF κ E (η [0] (aA Ω).code) ⟨56,F⟩ Z Q:=by
 obtain⟨g0,g1,g2,g3,g4,g5,g6⟩:=wf;obtain⟨pa,e1,e2⟩:=TH hne hx h hl s.hp;have hp1:=ej.2 hne;have hlen:lenOf E Z 23 (.sl bp 0 p.length none)=some p.length:=lV hl.fF rfl s.hp.ls;have hw1:wr .i64 ((p.length:Int)-1)=((p.length-1:Nat):Int):=by rw[Lm _ (by omega) (by omega)];omega
 refine uF he hfs hmix ?_;simp only[aA,Ω,KP,Ξ,↓reduceIte,δ,ε,μ,reduceCtorEq,h.bU,η,g0,hlen,hw1,e1,e2,aL,bP];exact hk _ ⟨(by simp+decide only[GS,g0]),(by simp+decide only[GS,g1]),(by simp+decide only[GS,g2]),(by simp+decide only[GS,g3]),(by simp+decide only[GS,g4]),(by simp+decide only[GS,g5]),(by simp+decide only[GS,g6])⟩ (by simp+decide only[GS])
theorem Sw(h:bG E)(h':mL E)(hl:bv E)(q:uM E)(tr:Bo E)(pt:JO E)(he:cG κ E)(hfs:f_ κ E)(hmix:Tryz.prog.follows .mixedOrders=true){M:List (aC × Nat)}{many:Nat}{b:aC}{g:V}{bp:Nat}{p:List aC}{w:V}{U:Nat->Prop}{out:List (List aC)}{Z:Sg}(s:JA Z M many b g bp p w U out)(hm:many<=1000){x:aC}{nx:Nat}(hnx:Z[nx]?=some (ζ 51 [.bool x.1,.str x.2] true))(F:FT)(wf:WF F bp p.length)(g8:F.get 8=.ref nx 0)(hout:out.length<=1000){Q:io->Fr->Sg->Prop}
  (hr:∀F',(lG M x).isSome=false\/many<=out.length->Q .ret ⟨56,F'⟩ Z)(hk:∀F',(lG M x).isSome=true->¬ many<=out.length->WF F' bp p.length->F'.get 8=.ref nx 0->Q .normal ⟨56,F'⟩ Z):nF κ E (η [1,0] (aA Ω).code) ⟨56,F⟩ Z Q:=by
 obtain⟨g0,g1,g2,g3,g4,g5,g6⟩:=wf;obtain⟨b5,b3,b2,b0,b7⟩:=s.bx;have b6:=s.b6;obtain⟨us,ow,-,hus⟩:=s.ou;have hul:=hus.len;have lo:=QN pt hl ow;rw[hul]at lo;have hlk:=zY h hl tr (Z:=Z) (v:=.imp false (M.map dV)) rfl x;refine uF he hfs hmix ?_;cases hd:(lG M x).isSome with
 |false=>
  rw[hd]at hlk;simp only[aA,Ω,KP,ι,↓reduceIte,δ,ε,μ,h.bU,η,tr.qT,g1,g8,b5,hnx,hlk];exact hr _ (.inl hd)
 |true=>
  rw[hd]at hlk;by_cases hge:many<=out.length
  ·have z1:decide ((many:Int)<=(out.length:Int))=true:=BY (by omega);simp only[aA,Ω,KP,ι,↓reduceIte,δ,ε,μ,h.mP,h.bU,η,pt.B6,tr.qT,g1,g2,g3,g8,b5,b6,b3,hnx,hlk,lo,z1];exact hr _ (.inr hge)
  ·have z1:decide ((many:Int)<=(out.length:Int))=false:=AS (by omega);simp only[aA,Ω,KP,ι,↓reduceIte,δ,ε,μ,h.mP,h.bU,η,pt.B6,tr.qT,g1,g2,g3,g8,b5,b6,b3,hnx,hlk,lo,z1];exact hk _ hd hge ⟨(by simp+decide only[GS,g0]),(by simp+decide only[GS,g1]),(by simp+decide only[GS,g2]),(by simp+decide only[GS,g3]),(by simp+decide only[GS,g4]),(by simp+decide only[GS,g5]),(by simp+decide only[GS,g6])⟩ (by simp+decide only[GS,g8])
theorem OW(h:bG E)(h':mL E)(hl:bv E)(q:uM E)(tr:Bo E)(pt:JO E)(he:cG κ E)(hfs:f_ κ E)(hmix:Tryz.prog.follows .mixedOrders=true){M:List (aC × Nat)}{many:Nat}{b:aC}{g:V}{bp:Nat}{p:List aC}{w:V}{U:Nat->Prop}{out:List (List aC)}{Z:Sg}(s:JA Z M many b g bp p w U out)(hne:p≠[])(hpl:p.length<=100000)(hout:out.length<=1000){x:aC}{nx:Nat}(hnx:Z[nx]?=some (ζ 51 [.bool x.1,.str x.2] true))(F:FT)(wf:WF F bp p.length)(g8:F.get 8=.ref nx 0){Q:io->Fr->Sg->Prop}
  (hr:∀F' Y,x=b->Rw Z M many b g U bp p (out++[p]) Y->Q .ret ⟨56,F'⟩ Y)(hk:∀F',x≠b->WF F' bp p.length->F'.get 8=.ref nx 0->Q .normal ⟨56,F'⟩ Z):nF κ E (η [1,1,0] (aA Ω).code) ⟨56,F⟩ Z Q:=by
 have r4:=λF g0 g2 st Q hk=>Yu h hl pt s hne hpl hout F g0 g2 (st:=st) (Q:=Q) hk;obtain⟨g0,g1,g2,g3,g4,g5,g6⟩:=wf;have b2:=s.bx.b2;have e0:=λc=>Hh hl (b:=c) x b;refine uF he hfs hmix ?_;rw[show (η [1,1,0] (aA Ω).code)=.seq (η [1,1,0,0] (aA Ω).code) (.cond (.tmp 35) (.seq (.region 4 (Φ (η [1,1,0,1,0,0] (aA Ω).code)) true) .ret) .skip) from rfl];generalize (Φ (η [1,1,0,1,0,0] (aA Ω).code))=O4 at r4 ⊢;by_cases hxb:x=b
 ·rw[BY hxb]at e0;simp only[aA,Ω,KP,ι,↓reduceIte,δ,ε,μ,h.bU,η,g4,g8,b2,hnx,e0];refine r4 _ ?_ ?_ _ _ (λF' Y hR=>?_)
  ·simp+decide only[GS,g0]
  ·simp+decide only[GS,g2]
  rw[NS];simp only[KP];exact hr _ _ hxb hR
 ·rw[AS hxb]at e0;simp only[aA,Ω,KP,ι,↓reduceIte,δ,ε,μ,h.bU,η,g4,g8,b2,hnx,e0];exact hk _ hxb ⟨(by simp+decide only[GS,g0]),(by simp+decide only[GS,g1]),(by simp+decide only[GS,g2]),(by simp+decide only[GS,g3]),(by simp+decide only[GS,g4]),(by simp+decide only[GS,g5]),(by simp+decide only[GS,g6])⟩ (by simp+decide only[GS,g8])
theorem OZ(h:bG E)(h':mL E)(hl:bv E)(q:uM E)(tr:Bo E)(pt:JO E)(he:cG κ E)(hfs:f_ κ E)(hmix:Tryz.prog.follows .mixedOrders=true){M:List (aC × Nat)}{many:Nat}{b:aC}{g:V}{bp:Nat}{p:List aC}{w:V}{U:Nat->Prop}{out:List (List aC)}{Z:Sg}(s:JA Z M many b g bp p w U out){rs:List aD}(hg:xD E rs g)(hf:Fits rs){x:aC}{nx:Nat}(hnx:Z[nx]?=some (ζ 51 [.bool x.1,.str x.2] true))(F:FT)(wf:WF F bp p.length)(g8:F.get 8=.ref nx 0){Q:io->Fr->Sg->Prop}
  (hk:∀F' v,WF F' bp p.length->xP v (bH rs x)->F'.get 43=v->F'.get 44=.int .i64 ((bH rs x).length:Int)->F'.get 45=.int .i64 ((0:Nat):Int)->Q .normal ⟨56,F'⟩ Z):nF κ E (η [1,1,1,0] (aA Ω).code) ⟨56,F⟩ Z Q:=by
 obtain⟨g0,g1,g2,g3,g4,g5,g6⟩:=wf;have b0:=s.bx.b0;refine uF he hfs hmix ?_;simp only[aA,Ω,KP,ι,↓reduceIte,δ,ε,μ,h.bU,η,pt.EB,g5,g8,b0,hnx];refine aK (vX h h' hl q hg hf x) ?_;rintro v Y ⟨rfl,hv⟩;have lv:=jM h hv.KL.is;simp only[KP,↓reduceIte,ε,lv];exact hk _ v ⟨(by simp+decide only[GS,g0]),(by simp+decide only[GS,g1]),(by simp+decide only[GS,g2]),(by simp+decide only[GS,g3]),(by simp+decide only[GS,g4]),(by simp+decide only[GS,g5]),(by simp+decide only[GS,g6])⟩ hv (by simp+decide only[GS]) (by simp+decide only[GS]) (by simp+decide only[GS])
theorem DJ{n:Nat}{args:List V}(h:Nat.ble args.length n=true):Fr.init n args=some ⟨n,FT.fill .leaf 0 args⟩:=by
 unfold Fr.init;rw[h];dsimp only;rw[fill_eq _ _ _ (by rw[dc];exact jl h)]
theorem GG{f:Nat}{args:List V}{Z:Sg}{R R':V->Sg->Prop}(h:qZ κ E f args Z R)(k:∀v Y,R v Y->R' v Y):qZ κ E f args Z R':=λc xs h1 h2 h3=>(h c xs h1 h2 h3).mono λx w' ⟨v,Y,hr,hb⟩=>⟨v,Y,k v Y hr,hb⟩
theorem Qf{Z:Sg}{bq:Nat}{p:List aC}{y:aC}(h:Lf Z bq (p++[y])):Lf Z bq p:=by
 obtain⟨cs,ex,h1,h2⟩:=h;refine⟨cs,ex,h1,?_⟩;have:=b8 (List.take (p.length*2)) h2;rw[nr,By,dj,mq (by omega),List.flatMap_append,je (by rw[nP];exact OF _)]at this;rw[this];exact ah (by rw[nP];exact OF _)
theorem Yv{Z Y:Sg}{M:List (aC × Nat)}{many:Nat}{b:aC}{g:V}{bp:Nat}{p:List aC}{w:V}{U:Nat->Prop}{out:List (List aC)}{y:aC}{qv:V}(s:JA Z M many b g bp p w U out)(hw:W8 Z y bp p qv Y):∃bq,qv=.sl bq 0 (p++[y]).length none/\JA Y M many b g bq (p++[y]) w U out/\Z.length<=Y.length/\(bq=bp\/Z.length<=bq/\Y[bp]?=Z[bp]?):=by
 have hn7:=(AI.1 s.bx.b7).1;have h8:=s.h8;have hfl:(p++[y]).flatMap row=p.flatMap row++row y:=by rw[List.flatMap_append];simp
 obtain⟨cs,ex,hb,hcs⟩:=s.hp;have hbl:=(AI.1 hb).1;have kb:∀(c:Nat)(o:O),c<8->c≠6->Z[c]?=some o->Y[c]?=some o:=λc o hc _ e=>CH hw e (by omega);have k6:=CH hw s.b6 (by omega);have ku:∀(c:Nat)(o:O),U c->Z[c]?=some o->Y[c]?=some o:=λc o hu e=>CH hw e λe2=>s.nU (by rw[<- e2];exact hu);rcases hw with⟨rfl,rfl⟩ | ⟨rfl,rfl⟩
 ·refine⟨bp,by rw[By];rfl,⟨s.bx.keep kb,k6,s.ou.keep ku λ_=>id,⟨_,false,br (by rw[By];omega),?_⟩,h8,s.nU,λk hk=>⟨(s.U8 k hk).1,?_⟩⟩,?_,.inl rfl⟩
  ·rw[hfl,By,dj];refine ah ?_;rw[By,nP];show p.length*2+2<=_;omega
  ·rw[dy,By];have:=(s.U8 k hk).2;omega
  ·rw[dy,By];omega
 ·refine⟨Z.length+1,by rw[By];rfl,⟨s.bx.keep kb,k6,s.ou.keep ku λ_=>id,⟨p.flatMap row++row y,false,?_,?_⟩,by omega,λhu=>by have:=(s.U8 _ hu).2;omega,λk hk=>⟨(s.U8 k hk).1,?_⟩⟩,?_,.inr ⟨by omega,?_⟩⟩
  ·rw[bg (by rw[By];exact OF _),By];simp
  ·rw[hfl,By,dj];refine ah ?_;rw[By,nP];show p.length*2+2<=_;omega
  ·rw[By,By];have:=(s.U8 k hk).2;omega
  ·rw[By,By];omega
  ·rw[au (by rw[By];omega),au hbl]
theorem SA{Z Y ρ:Sg}{M:List (aC × Nat)}{many:Nat}{b:aC}{g:V}{bp:Nat}{p:List aC}{w:V}{U:Nat->Prop}{out:List (List aC)}{y:aC}{qv:V}{bq:Nat}{out':List (List aC)}(s:JA Z M many b g bp p w U out)(hw:W8 Z y bp p qv Y)(hlen:Z.length<=Y.length)(hq:bq=bp\/Z.length<=bq/\Y[bp]?=Z[bp]?)(h:Rw Y M many b g U bq (p++[y]) out' ρ):Rw Z M many b g U bp p out' ρ:=by
 obtain⟨h1,h2,w',U',h3,h4⟩:=h;have h8:=s.h8
 have fr:∀k o,Z[k]?=some o->k≠6->k≠bp->¬ U k->ρ[k]?=some o:=λk o hk k6 kb kU=>h2 k o (CH hw hk kb) k6 (λe=>by
  rcases hq with rfl | ⟨hq,-⟩
  ·exact kb e
  ·have:=(AI.1 hk).1;omega) kU
 have hU:∀k,U' k->U k\/Z.length<=k:=λk hk=>(h4 k hk).imp id λg=>by omega
 obtain⟨cs,ex,hb,hcs⟩:=s.hp;have hbl:=(AI.1 hb).1;refine⟨by omega,fr,w',U',⟨h3.bx,h3.b6,h3.ou,?_,h8,λhu=>?_,h3.U8⟩,hU⟩
 ·rcases hq with rfl | ⟨hq,hqe⟩
  ·exact Qf h3.hp
  ·exact⟨cs,ex,h2 bp _ (by rw[hqe];exact hb) (by omega) (by omega) s.nU,hcs⟩
 ·rcases hU _ hu with g | g
  ·exact s.nU g
  ·omega
section
variable {rs:List aD}{M:List (aC × Nat)}{many:Nat}{b:aC}{g:V}
def Yf{E:Env}(rs:List aD)(M:List (aC × Nat))(many:Nat)(b:aC)(g:V)(d:Nat):Prop:=∀(x:aC)(p:List aC)(Z:Sg)(bp:Nat)(w:V)(U:Nat->Prop)(out:List (List aC)),deep rs x<d->p≠[]->p[p.length-1]?=some x->p.length+deep rs x<=50000->out.length<=many->JA Z M many b g bp p w U out ->
 qZ κ E 106 [.sl bp 0 p.length none,.ref 5 0,.ref 6 0,.ref 3 0,.ref 2 0,.ref 0 0,.ref 7 0] Z λv Y=>v=.fR []/\Rw Z M many b g U bp p (mC (λy=>(lG M y).isSome) (bH rs) b many d p x out) Y
theorem Sv(h:bG E)(h':mL E)(hl:bv E)(q:uM E)(tr:Bo E)(pt:JO E)(he:cG κ E)(hfs:f_ κ E)(hmix:Tryz.prog.follows .mixedOrders=true)(hf:Fits rs){d:Nat}(ih:Yf (E:=E) rs M many b g d){Z:Sg}{bp:Nat}{p:List aC}{w:V}{U:Nat->Prop}{out:List (List aC)}(s:JA Z M many b g bp p w U out)(hne:p≠[]){x:aC}(hd:deep rs x<=d)(hpl:p.length+deep rs x<=50000)(hout:out.length<=many){v:V}(hv:xP v (bH rs x)){i:Nat}{y:aC}(hy:(bH rs x)[i]?=some y)(hnl:(bH rs x).length<=1000000)
  (F:FT)(wf:WF F bp p.length)(g43:F.get 43=v)(g44:F.get 44=.int .i64 ((bH rs x).length:Int))(g45:F.get 45=.int .i64 (i:Int)){Q:io->Fr->Sg->Prop}
  (hk:∀F' Y,WF F' bp p.length->F'.get 43=v->F'.get 44=.int .i64 ((bH rs x).length:Int)->F'.get 45=.int .i64 ((i+1:Nat):Int)->Rw Z M many b g U bp p (mC (λy=>(lG M y).isSome) (bH rs) b many d (p++[y]) y out) Y->Q .normal ⟨56,F'⟩ Y):nF κ E (η [1,1,1,1,2,2] (aA Ω).code) ⟨56,F⟩ Z Q:=by
 have hyx:=ag hy;have hdy:=Hl hf hyx;have hi:=(AI.1 hy).1;have hlt:=dR hi;have hadd:=bW i (by omega);obtain⟨gi,ei⟩:=t_ h hv.KL.is hy;rw[show (η [1,1,1,1,2,2] (aA Ω).code)=.seq (η [1,1,1,1,2,2,0] (aA Ω).code) (.seq (.cond (.tmp 46) .skip (.exit 0)) (.seq (.block 1 (.seq (η [1,1,1,1,2,2,1,1,0,2,0] (aA Ω).code) (.region 8 (Φ (η [1,1,1,1,2,2,1,1,0,2,1] (aA Ω).code)) true))) (η [1,1,1,1,2,2,1,1,1] (aA Ω).code))) from rfl];refine nX (λz fr Y=>z=.normal/\Y=Z/\∃F',fr=⟨56,F'⟩/\WF F' bp p.length/\F'.get 43=v/\F'.get 44=.int .i64 ((bH rs x).length:Int)/\F'.get 45=.int .i64 (i:Int)/\F'.get 46=.bool true) (C6 (uF he hfs hmix (Q:=λz fr Y=>∃F',z=.normal/\Y=Z/\fr=⟨56,F'⟩/\F'=FT.set F 46 (.bool true)) ?_) ?_) (λz fr Y hz hn=>absurd hz.1 hn) ?_
 ·generalize hQ:(λ(z:io) (fr:Fr) (Y:Sg)=>∃F',z=.normal/\Y=Z/\fr=⟨56,F'⟩/\F'=FT.set F 46 (.bool true))=QQ;simp only[aA,Ω,KP,↓reduceIte,ε,η,g44,g45,hlt];rw[<- hQ];exact⟨_,rfl,rfl,rfl,rfl⟩
 ·rintro z fr Y ⟨F',rfl,rfl,rfl,rfl⟩;have e:∀t,t≠46->(FT.set F 46 (.bool true)).get t=F.get t:=λt ht=>by rw[FT.bX,an ht]
  exact⟨rfl,rfl,_,rfl,⟨(e 0 (by omega)).trans wf.g0,(e 1 (by omega)).trans wf.g1,(e 2 (by omega)).trans wf.g2,(e 3 (by omega)).trans wf.g3,(e 4 (by omega)).trans wf.g4,(e 5 (by omega)).trans wf.g5,(e 6 (by omega)).trans wf.g6⟩,(e 43 (by omega)).trans g43,(e 44 (by omega)).trans g44,(e 45 (by omega)).trans g45,by rw[FT.bX,az rfl]⟩
 clear wf g43 g44 g45 F;rintro fr Y ⟨-,rfl,F,rfl,wf,g43,g44,g45,g46⟩;refine nX (λz fr τ'=>z=.normal/\τ'=Y/\fr=⟨56,F⟩) (LY (by simp only[aS,Ax.Fr.vO,ε,bf,g46]) (uF he hfs hmix ?_)) (λz fr Y hz hn=>absurd hz.1 hn) ?_
 ·rw[Kn,QA];exact⟨rfl,rfl,rfl⟩
 rintro fr τ' ⟨-,rfl,rfl⟩;have wf':=wf;obtain⟨g0,g1,g2,g3,g4,g5,g6⟩:=wf';have s1:=s.app [ζ 51 [.bool y.1,.str y.2] true];have n12:(τ'++[ζ 51 [.bool y.1,.str y.2] true])[τ'.length]?=some (ζ 51 [.bool y.1,.str y.2] true):=aL;have hbp:=s.hp;obtain⟨cs,ex,hb,hcs⟩:=s1.hp
 have hbl:bp<τ'.length:=by
  obtain⟨cs,ex,hb,-⟩:=hbp;exact(AI.1 hb).1
 refine nX (λz fr Y=>z=.normal/\∃F',fr=⟨56,F'⟩/\WF F' bp p.length/\F'.get 43=v/\F'.get 44=.int .i64 ((bH rs x).length:Int)/\F'.get 45=.int .i64 (i:Int)/\Rw τ' M many b g U bp p (mC (λy=>(lG M y).isSome) (bH rs) b many d (p++[y]) y out) Y) (Fb (λz fr Y=>z=.normal/\∃F',fr=⟨56,F'⟩/\WF F' bp p.length/\F'.get 43=v/\F'.get 44=.int .i64 ((bH rs x).length:Int)/\F'.get 45=.int .i64 (i:Int)/\Rw τ' M many b g U bp p (mC (λy=>(lG M y).isSome) (bH rs) b many d (p++[y]) y out) Y) (nX (λz fr Y=>z=.normal/\∃F',fr=⟨56,F'⟩/\WF F' bp p.length/\F'.get 43=v/\F'.get 44=.int .i64 ((bH rs x).length:Int)/\F'.get 45=.int .i64 (i:Int)/\F'.get 12=.ref τ'.length 0/\Y=τ'++[ζ 51 [.bool y.1,.str y.2] true]) (uF he hfs hmix ?_) (λz fr Y hz hn=>absurd hz.1 hn) ?_) (λz fr Y hz _=>hz) (λfr Y hz=>by cases hz.1)) (λz fr Y hz hn=>absurd hz.1 hn) ?_
 ·generalize hQ:(λ(z:io) (fr:Fr) (Y:Sg)=>z=.normal/\∃F',fr=⟨56,F'⟩/\WF F' bp p.length/\F'.get 43=v/\F'.get 44=.int .i64 ((bH rs x).length:Int)/\F'.get 45=.int .i64 (i:Int)/\F'.get 12=.ref τ'.length 0/\Y=τ'++[ζ 51 [.bool y.1,.str y.2] true])=QQ;simp only[aA,Ω,KP,ι,Ξ,↓reduceIte,δ,ε,μ,h.bU,η,g43,g45,ei,aL,bP];rw[<- hQ];exact⟨rfl,_,rfl,⟨(by simp+decide only[GS,g0]),(by simp+decide only[GS,g1]),(by simp+decide only[GS,g2]),(by simp+decide only[GS,g3]),(by simp+decide only[GS,g4]),(by simp+decide only[GS,g5]),(by simp+decide only[GS,g6])⟩,(by simp+decide only[GS,g43]),(by simp+decide only[GS,g44]),(by simp+decide only[GS,g45]),(by simp+decide only[GS]),rfl⟩
 ·clear g0 g1 g2 g3 g4 g5 g6 wf g43 g44 g45 g46 F;rintro fr Y ⟨-,F,rfl,wf,g43,g44,g45,g12,rfl⟩;refine C6 (Yt h hl pt he hfs hmix (Rr:=λρ=>Rw (τ'++[ζ 51 [.bool y.1,.str y.2] true]) M many b g U bp p (mC (λy=>(lG M y).isSome) (bH rs) b many d (p++[y]) y out) ρ) s1.bx.b7 n12 hb hcs s.h8 (by omega) (by omega) F wf.g0 wf.g6 g12 (λqv Y hw=>?_)) ?_
  ·obtain⟨bq,rfl,st,hlen,hq⟩:=Yv s1 hw;have hc:=ih y (p++[y]) Y bq w U out (by omega) (by simp) (by rw[By,dj,o6,bg (OF _),j9];rfl) (by rw[By,dj];omega) hout st;exact GG hc λv ρ ⟨e1,hR⟩=>⟨e1,SA s1 hw hlen hq hR⟩
  ·rintro z fr Y ⟨rfl,F',rfl,hF,hR⟩;refine⟨rfl,F',rfl,wf.keep hF,(hF 43 (by omega)).trans g43,(hF 44 (by omega)).trans g44,(hF 45 (by omega)).trans g45,hR.trans (by rw[By];omega) (λk o hk _ _ _=>aI hk) λk hk=>.inl hk⟩
 ·clear g0 g1 g2 g3 g4 g5 g6 wf g43 g44 g45 g46 F;rintro fr Y ⟨-,F,rfl,wf,g43,g44,g45,hR⟩;have wf':=wf;obtain⟨g0,g1,g2,g3,g4,g5,g6⟩:=wf';refine uF he hfs hmix ?_;simp only[aA,Ω,KP,↓reduceIte,ε,η,g45,hadd];exact hk _ _ ⟨(by simp+decide only[GS,g0]),(by simp+decide only[GS,g1]),(by simp+decide only[GS,g2]),(by simp+decide only[GS,g3]),(by simp+decide only[GS,g4]),(by simp+decide only[GS,g5]),(by simp+decide only[GS,g6])⟩ (by simp+decide only[GS,g43]) (by simp+decide only[GS,g44]) (by simp+decide only[GS]) hR
theorem Lp(h:bG E)(h':mL E)(hl:bv E)(q:uM E)(tr:Bo E)(pt:JO E)(he:cG κ E)(hfs:f_ κ E)(hmix:Tryz.prog.follows .mixedOrders=true)(hf:Fits rs){d:Nat}(ih:Yf (E:=E) rs M many b g d){bp:Nat}{p:List aC}(hne:p≠[]){x:aC}(hd:deep rs x<=d)(hpl:p.length+deep rs x<=50000){v:V}(hv:xP v (bH rs x))(hnl:(bH rs x).length<=1000000){σ0:Sg}{U0:Nat->Prop}{out0:List (List aC)}:∀(k i:Nat)(F:FT)(Z:Sg)(w:V)(U:Nat->Prop)(out:List (List aC)),i+k=(bH rs x).length->JA Z M many b g bp p w U out->out.length<=many->WF F bp p.length->F.get 43=v->F.get 44=.int .i64 ((bH rs x).length:Int)->F.get 45=.int .i64 (i:Int) ->
  out=((bH rs x).take i).foldl (λout y=>mC (λy=>(lG M y).isSome) (bH rs) b many d (p++[y]) y out) out0->(∀ρ o,Rw Z M many b g U bp p o ρ->Rw σ0 M many b g U0 bp p o ρ) ->
  Vb κ E (η [1,1,1,1,2,2] (aA Ω).code) ⟨56,F⟩ Z λz fr Y=>z=.exit 0/\Rw σ0 M many b g U0 bp p ((bH rs x).foldl (λout y=>mC (λy=>(lG M y).isSome) (bH rs) b many d (p++[y]) y out) out0) Y
 |0,i,F,Z,w,U,out,hk,s,hout,wf,g43,g44,g45,ho,ht=>by
  have hlt:decide ((i:Int)<((bH rs x).length:Int))=false:=AS (by omega);refine E9 (λz fr Y=>z=.exit 0/\Y=Z) (uF he hfs hmix ?_) ?_ (λfr Y hz=>by cases hz.1)
  ·generalize hQ:(λ(z:io) (fr:Fr) (Y:Sg)=>z=.exit 0/\Y=Z)=QQ;rw[show (η [1,1,1,1,2,2] (aA Ω).code)=.seq (η [1,1,1,1,2,2,0] (aA Ω).code) (.seq (.cond (.tmp 46) .skip (.exit 0)) (η [1,1,1,1,2,2,1,1] (aA Ω).code)) from rfl];simp only[aA,Ω,KP,↓reduceIte,ε,η,g44,g45,hlt];rw[<- hQ];exact⟨rfl,rfl⟩
  ·rintro z fr Y ⟨rfl,rfl⟩ -;refine⟨rfl,?_⟩;rw[ah (by omega)]at ho;rw[<- ho];exact ht _ _ (Rw.refl s)
 |k+1,i,F,Z,w,U,out,hk,s,hout,wf,g43,g44,g45,ho,ht=>by
  obtain⟨y,hy⟩:∃y,(bH rs x)[i]?=some y:=⟨_,AT (by omega)⟩;refine E9 (λz fr Y=>z=.normal/\∃F',fr=⟨56,F'⟩/\WF F' bp p.length/\F'.get 43=v/\F'.get 44=.int .i64 ((bH rs x).length:Int)/\F'.get 45=.int .i64 ((i+1:Nat):Int)/\Rw Z M many b g U bp p (mC (λy=>(lG M y).isSome) (bH rs) b many d (p++[y]) y out) Y) (Sv h h' hl q tr pt he hfs hmix hf ih s hne hd hpl hout hv hy hnl F wf g43 g44 g45 λF' Y k1 k2 k3 k4 k5=>⟨rfl,F',rfl,k1,k2,k3,k4,k5⟩) (λz fr Y hz hn=>absurd hz.1 hn) ?_;rintro fr Y ⟨-,F',rfl,wf,g43,g44,g45,hR⟩;have hR':=hR;obtain⟨h1,h2,w',U',s',h4⟩:=hR';refine Lp h h' hl q tr pt he hfs hmix hf ih hne hd hpl hv hnl k (i+1) F' Y w' U' _ (by omega) s' (EW _ _ _ _ _ _ _ _ hout) wf g43 g44 g45 ?_ λρ o hρ=>ht ρ o (hρ.trans h1 h2 h4);rw[dz,hy,List.foldl_append,<- ho];rfl
theorem O2(h:bG E)(h':mL E)(hl:bv E)(q:uM E)(tr:Bo E)(pt:JO E)(he:cG κ E)(hfs:f_ κ E)(hmix:Tryz.prog.follows .mixedOrders=true)(hf:Fits rs)(hg:xD E rs g)(hm:many<=1000):∀d,Yf (E:=E) rs M many b g d
 |0=>λx p Z bp w U out hd=>by omega
 |d+1=>λx p Z bp w U out hd hne hx hpl hout s=>by
  have ih:=O2 h h' hl q tr pt he hfs hmix hf hg hm d;have hal:=kP hf;have hnl:(bH rs x).length<=1000000:=e8 (eO (vH rs x).nodup λy hy=>vG x y hy) (by omega);refine E_ he hfs pt.acV (DJ (by kernel_rfl)) ?_;have wf:WF (FT.fill .leaf 0 [.sl bp 0 p.length none,.ref 5 0,.ref 6 0,.ref 3 0,.ref 2 0,.ref 0 0,.ref 7 0]) bp p.length:=⟨(by simp+decide only[GS]),(by simp+decide only[GS]),(by simp+decide only[GS]),(by simp+decide only[GS]),(by simp+decide only[GS]),(by simp+decide only[GS]),(by simp+decide only[GS])⟩;generalize FT.fill .leaf 0 [.sl bp 0 p.length none,.ref 5 0,.ref 6 0,.ref 3 0,.ref 2 0,.ref 0 0,.ref 7 0]=F at wf;have fin:∀(z:io)(fr:Fr)(Y:Sg),((z=.normal\/z=.ret)/\Rw Z M many b g U bp p (mC (λy=>(lG M y).isSome) (bH rs) b many (d+1) p x out) Y)->(z=.normal\/z=.ret)/\∃vs,Ax.results E fr Y (aA Ω).results=some vs/\((match vs with | [v]=>v | vs=>V.fR vs)=V.fR []/\Rw Z M many b g U bp p (mC (λy=>(lG M y).isSome) (bH rs) b many (d+1) p x out) Y):=λz fr Y ⟨h1,h2⟩=>⟨h1,[],rfl,rfl,h2⟩;refine C6 ?_ fin;show nF κ E (aA Ω).code _ _ _;rw[show (aA Ω).code=.seq (η [0] (aA Ω).code) (.seq (η [1,0] (aA Ω).code) (.seq (η [1,1,0] (aA Ω).code) (.seq (η [1,1,1,0] (aA Ω).code) (.block 0 (.loop (η [1,1,1,1,2,2] (aA Ω).code)))))) from rfl];refine nX (λz fr Y=>z=.normal/\∃F',fr=⟨56,F'⟩/\WF F' bp p.length/\F'.get 8=.ref Z.length 0/\Y=Z++[ζ 51 [.bool x.1,.str x.2] true]) (OX h h' hl q tr pt he hfs hmix s hne (by omega) hx F wf λF' k1 k2=>⟨rfl,F',rfl,k1,k2,rfl⟩) (λz fr Y hz hn=>absurd hz.1 hn) ?_;rintro fr Y ⟨-,F1,rfl,wf1,g8,rfl⟩;have s1:=s.app [ζ 51 [.bool x.1,.str x.2] true];have nx:(Z++[ζ 51 [.bool x.1,.str x.2] true])[Z.length]?=some (ζ 51 [.bool x.1,.str x.2] true):=aL;have up:∀{o ρ},Rw (Z++[ζ 51 [.bool x.1,.str x.2] true]) M many b g U bp p o ρ->Rw Z M many b g U bp p o ρ:=λhR=>hR.trans (by rw[By];omega) (λk o hk _ _ _=>aI hk) λk hk=>.inl hk;refine nX (λz fr Y=>Y=Z++[ζ 51 [.bool x.1,.str x.2] true]/\((z=.ret/\((lG M x).isSome=false\/many<=out.length))\/(z=.normal/\(lG M x).isSome=true/\¬ many<=out.length/\∃F',fr=⟨56,F'⟩/\WF F' bp p.length/\F'.get 8=.ref Z.length 0))) (Sw h h' hl q tr pt he hfs hmix s1 hm nx F1 wf1 g8 (by omega) (λF' hc=>⟨rfl,.inl ⟨rfl,hc⟩⟩) λF' k1 k2 k3 k4=>⟨rfl,.inr ⟨rfl,k1,k2,F',rfl,k3,k4⟩⟩) ?_ ?_
  ·rintro z fr Y ⟨rfl,⟨rfl,hc⟩ | ⟨rfl,-⟩⟩ hn
   ·refine⟨.inr rfl,?_⟩;unfold mC;rw[az hc];exact up (Rw.refl s1)
   ·exact absurd rfl hn
  rintro fr Y ⟨rfl,⟨hz,-⟩ | ⟨-,hdm,hnm,F2,rfl,wf2,g8⟩⟩
  ·cases hz
  have hgo:¬ ((lG M x).isSome=false\/many<=out.length):=λhc=>hc.elim (λe=>by rw[hdm]at e;cases e) hnm;refine nX (λz fr Y=>(z=.ret/\x=b/\Rw (Z++[ζ 51 [.bool x.1,.str x.2] true]) M many b g U bp p (out++[p]) Y)\/(z=.normal/\x≠b/\Y=Z++[ζ 51 [.bool x.1,.str x.2] true]/\∃F',fr=⟨56,F'⟩/\WF F' bp p.length/\F'.get 8=.ref Z.length 0)) (OW h h' hl q tr pt he hfs hmix s1 hne (by omega) (by omega) nx F2 wf2 g8 (λF' Y k1 k2=>.inl ⟨rfl,k1,k2⟩) λF' k1 k2 k3=>.inr ⟨rfl,k1,rfl,F',rfl,k2,k3⟩) ?_ ?_
  ·rintro z fr Y (⟨rfl,hxb,hR⟩ | ⟨rfl,-⟩) hn
   ·refine⟨.inr rfl,?_⟩;unfold mC;rw[an hgo,az hxb];exact up hR
   ·exact absurd rfl hn
  rintro fr Y (⟨hz,-⟩ | ⟨-,hxb,rfl,F3,rfl,wf3,g8⟩)
  ·cases hz
  refine nX (λz fr Y=>z=.normal/\Y=Z++[ζ 51 [.bool x.1,.str x.2] true]/\∃F' v,fr=⟨56,F'⟩/\WF F' bp p.length/\xP v (bH rs x)/\F'.get 43=v/\F'.get 44=.int .i64 ((bH rs x).length:Int)/\F'.get 45=.int .i64 ((0:Nat):Int)) (OZ h h' hl q tr pt he hfs hmix s1 hg hf nx F3 wf3 g8 λF' v k1 k2 k3 k4 k5=>⟨rfl,rfl,F',v,rfl,k1,k2,k3,k4,k5⟩) (λz fr Y hz hn=>absurd hz.1 hn) ?_;rintro fr Y ⟨-,rfl,F4,v,rfl,wf4,hv,g43,g44,g45⟩;refine Fb _ (PY (Lp h h' hl q tr pt he hfs hmix hf ih hne (by omega) (by omega) hv hnl (bH rs x).length 0 F4 _ w U out (by omega) s1 hout wf4 g43 g44 g45 (by rw[jq];rfl) λρ o hR=>hR)) ?_ ?_
  ·rintro z fr Y ⟨rfl,-⟩ hn;exact absurd rfl hn
  ·rintro fr Y ⟨-,hR⟩;refine⟨.inl rfl,?_⟩;unfold mC;rw[an hgo,an hxb];exact up hR
end
end
end
structure EqE (E:Env):Prop where
 hs20:E.hspec 20=none
 SU:E.spec 20=none
 fn20:E.fn 20=some (aA Tryz.f20)
 md20:E.mode 20=.eW
 d20_6:aN E (η [1,1,0,1,2,2,1,0,2,0] (aA Tryz.f20).code)=true
 hs87:E.hspec 87=none
 sp87:E.spec 87=none
 fn87:E.fn 87=some (aA Tryz.f87)
 md87:E.mode 87=.eW
 fn27:E.fn 27=some (aA Tryz.f27)
 md27:E.mode 27=.eW
 zA:fP E (Ax.two id (Φ (η [1,1,0,1,2,2,1,0,2,0] (aA Tryz.f27).code)) 8)=.no
 zB:fP E (Ax.two (sw 8) (Φ (η [1,1,0,1,2,2,1,0,2,0] (aA Tryz.f27).code)) 8)=.no
 pA:cK E .no (Ax.two id (Φ (η [1,1,0,1,2,2,1,0,2,0] (aA Tryz.f27).code)) 8)=some [⟨3,8,false,true⟩,⟨3,9,false,true⟩,⟨7,8,false,true⟩,⟨7,9,false,true⟩,⟨7,10,false,true⟩]
 pB:cK E .no (Ax.two (sw 8) (Φ (η [1,1,0,1,2,2,1,0,2,0] (aA Tryz.f27).code)) 8)=some [⟨3,8,false,true⟩,⟨3,9,false,true⟩,⟨7,8,false,true⟩,⟨7,9,false,true⟩,⟨7,10,false,true⟩]
 d27_12:aN E (η [1,1,0,1,2,2,1,0,2,1,1,1,2,2,1,0,2,0] (aA Tryz.f27).code)=true
section
section
variable {E:Env}{Z:Sg}{K:V->Sg->Prop}
def adB(x:aD)(r:List V):Prop:=∃a b c d,r=[.str x.name,a,b,c,d]/\IS aP a x.ins/\IS aP b x.outs/\IS aP c x.after/\IS fB d x.steps
structure Box2 (F:FT) (x y:aD) (F':FT) (Y:Sg):Prop where
 g0:F'.get 0=F.get 0
 g1:F'.get 1=F.get 1
 g5:F'.get 5=F.get 5
 bx:∃p r,F'.get 6=.ref p 0/\adB x r/\Y[p]?=some (.cells 46 r true)
 by':∃p r,F'.get 7=.ref p 0/\adB y r/\Y[p]?=some (.cells 46 r true)
theorem Si{α:Type}{P:List V->α->Prop}(hp:∀r x y,P r x->P r y->x=y):∀{rs:List (List V)}{l m:List α},eL P rs l->eL P rs m->l=m:=by
 intro rs
 induction rs with
 |nil=>intro l m h1 h2;cases h1;cases h2;rfl
 |cons r rs ih=>
  intro l m h1 h2;cases h1 with
  |cons a1 a2=>cases h2 with
   |cons b1 b2=>rw[hp _ _ _ a1 b1,ih a2 b2]
theorem vN{α:Type}{L:Lay α}(hp:∀r x y,L.P r x->L.P r y->x=y){v:V}{l m:List α}(h1:IS L v l)(h2:IS L v m):l=m:=by
 rcases h1 with⟨rfl,rfl⟩ | ⟨g,rs,f,rfl,a1⟩
 ·rcases h2 with⟨-,rfl⟩ | ⟨g,rs,f,e,-⟩
  ·rfl
  ·cases e
 ·rcases h2 with⟨e,-⟩ | ⟨g',rs',f',e,a2⟩
  ·cases e
  ·cases e;exact Si hp a1 a2
theorem str_inj:∀r x y,aP.P r x->aP.P r y->x=y:=λr x y h1 h2=>by
 have e:[V.str x]=[V.str y]:=Eq.trans (Eq.symm h1) h2;cases e;rfl
theorem Po:∀r x y,fB.P r x->fB.P r y->x=y:=λr x y h1 h2=>by
 obtain⟨a,b,rfl,h3,h4⟩:=h1;obtain⟨a',b',e,h5,h6⟩:=h2;obtain⟨x1,x2,x3,x4,x5⟩:=x;obtain⟨y1,y2,y3,y4,y5⟩:=y;dsimp only at e h3 h4 h5 h6;injection e with e1 e;injection e with e2 e;injection e with e3 e;injection e with e4 e;injection e with e5 e;injection e1 with e1;injection e2 with _ e2;injection e5 with _ e5;subst e1 e2 e3 e4 e5;rw[vN str_inj h3 h5,vN str_inj h4 h6]
theorem Ig:∀r x y,dU.P r x->dU.P r y->x=y:=λr x y h1 h2=>by
 obtain⟨a,b,c,d,rfl,h3,h4,h5,h6⟩:=h1;obtain⟨a',b',c',d',e,k3,k4,k5,k6⟩:=h2;obtain⟨x1,x2,x3,x4,x5⟩:=x;obtain⟨y1,y2,y3,y4,y5⟩:=y;dsimp only at e h3 h4 h5 h6 k3 k4 k5 k6;injection e with e1 e;injection e with e2 e;injection e with e3 e;injection e with e4 e;injection e with e5 e;injection e1 with e1;subst e1 e2 e3 e4 e5;rw[vN str_inj h3 k3,vN str_inj h4 k4,vN str_inj h5 k5,vN Po h6 k6]
def Ll(vs:List V)(p:List aD × List aD):Prop:=∃a b,vs=[a,b]/\IS dU a p.1/\IS dU b p.2/\(∀x∈p.1,Small x)/\p.1.length<=1000
theorem Ll.inj{vs:List V}{p r:List aD × List aD}(h1:Ll vs p)(h2:Ll vs r):p=r:=by
 obtain⟨a,b,rfl,k1,k2,-⟩:=h1;obtain⟨a',b',e,m1,m2,-⟩:=h2;injection e with e1 e;injection e with e2 e;subst e1 e2;exact Prod.ext (vN Ig k1 m1) (vN Ig k2 m2)
open Classical in
end
section
variable {E:Env}{Z:Sg}{K:V->Sg->Prop}
structure Vz (E:Env) (b:Code) (Q:io->Fr->Sg->Prop) (x:io) (fr:Fr) (Y:Sg):Prop where
 n:x=.normal
 s:nF κ E b fr Y Q
theorem pS(he:cG κ E)(hfs:f_ κ E)(hmix:Tryz.prog.follows .mixedOrders=true){a b:Code}{fr:Fr}{Q:io->Fr->Sg->Prop}(h:Ax.R E a [] fr Z (Vz E b Q)):nF κ E (.seq a b) fr Z Q:=
 nX (Vz E b Q) (uF he hfs hmix h) (λx fr Y hx hn=>absurd hx.n hn) λfr Y hx=>hx.s
theorem HT{f:Nat}{s:List V->Option V}(h:∀vs v,s vs=some v->qZ κ E f vs [] λu Z=>cQ Z E.ty false u=some v):fJ κ E f s:=by
 intro d vs xs v hd hs hv hm;have hi:=rX hs []
 have hvi:fH (d.inner (d.fW [])) vs xs:=by
  refine fH.mono ?_ hv
  have ho:∀k,¬ d.own k:=by
   rintro k ⟨b,⟨o,ho,_⟩,_⟩;rw[hd]at ho;cases ho
  have hanc:(d.inner (d.fW [])).nT=d.nT:=by
   funext k;exact propext ⟨λh=>h.resolve_right (ho k),λh=>.inl h⟩
  exact⟨OF _,λk _ _=>⟨rfl,nO⟩,by rw[hd];exact OF _,λ_ _=>rfl,λ_ _=>rfl,λ_ _=>rfl,hanc,rfl,rfl,rfl⟩
 refine(h vs v hm _ xs hi rfl hvi).mono ?_;rintro x w' ⟨u,σ1,hR,d1,rfl,hσ,hx,hsd,hxv⟩;rw[<- hσ]at hR;obtain⟨g1,g2,g3⟩:=pK hs hx hsd hxv hR;exact⟨(d.fW []).outer d1.w,rfl,hd,g1,g2,g3⟩
def B5(p:List aC):V:=.bV false (p.map row) false
def iB(l:List (List aC)):V:=if l=[] then .aG else .bV false (l.map λp=>[B5 p]) false
theorem PK(hl:bv E){Z:Sg}{j n:Nat}{p:List aC}(hj:Z[j]?=some (.cells 51 (p.flatMap row) false)):bA Z E.ty false (n+2) (.sl j 0 p.length none)=some (B5 p):=by
 have hlen:(p.flatMap row).length=p.length*2:=nP p;have htk:((p.flatMap row).drop 0).take (p.length*2)=p.flatMap row:=by rw[ez,ah (by omega)]
 have hm:aW (λv=>match bA Z E.ty false (n+1) v with
   |some v=>if cI false v then some v else Ax.no "snap: borrowed"
   |none=>none) (((p.flatMap row).drop 0).take (p.length*2))=some (p.flatMap row):=by
  rw[htk];refine gH λx hx=>?_;obtain⟨y,-,hy⟩:=ij.1 hx;unfold row at hy;simp only[IN,bz,ek]at hy;rcases hy with rfl | rfl <;> rfl
 rw[bA];simp only[hj,hl.bU];rw[az (by omega)]
 refine Eq.trans (b8 (λo=>match o with
  |some l=>some (V.bV false (gn 2 p.length l) (false&&decide (0<2)&&(0+p.length*2==(p.flatMap row).length)))
  |none=>none) hm) ?_
 show some (V.bV false (gn 2 p.length (p.flatMap row)) _)=_;rw[AK];rfl
theorem PM(hl:bv E){Z:Sg}{w:V}{U:Nat->Prop}{l:List (List aC)}(ho:JE Z w U l):cQ Z E.ty false w=some (iB l):=by
 obtain⟨us,hv,-,ha⟩:=ho;rcases hv with⟨rfl,rfl⟩ | ⟨hn,b,rfl,hb⟩
 ·cases ha;rfl
 ·have key:∀(us:List V)(l:List (List aC)),eL (λu p=>∃bu,u=.sl bu 0 p.length none/\U bu/\p≠[]/\Z[bu]?=some (.cells 51 (p.flatMap row) false)) us l->aW (λv=>match bA Z E.ty false 11 v with
    |some v=>if cI false v then some v else Ax.no "snap: borrowed"
    |none=>none) us=some (l.map B5):=by
   intro us l ha
   induction ha with
   |nil=>rfl
   |cons p _ ih=>
    obtain⟨bu,rfl,-,-,hbu⟩:=p;simp only[aW,PK hl (n:=9) hbu,show ∀p,cI false (B5 p)=true from λ_=>rfl,bf,ih];rfl
  have hul:=ha.len;have htk:(us.drop 0).take (us.length*1)=us:=by rw[ez,ah (by omega)]
  have m2:aW (λv=>match bA Z E.ty false 11 v with
   |some v=>if cI false v then some v else Ax.no "snap: borrowed"
   |none=>none) ((us.drop 0).take (us.length*1))=some (l.map B5):=by rw[htk];exact key us l ha
  have h0:l≠[]:=λe=>hn (iu.1 (by rw[hul,e];rfl))
  have e:bA Z E.ty false 12 (.sl b 0 us.length none)=some (iB l):=by
   rw[bA];simp only[hb,hl.fF];rw[az (by omega)]
   refine Eq.trans (b8 (λo=>match o with
    |some l=>some (V.bV false (gn 1 us.length l) (false&&decide (0<1)&&(0+us.length*1==us.length)))
    |none=>none) m2) ?_
   show some (V.bV false (gn 1 us.length (l.map B5)) _)=_
   have:gn 1 us.length (l.map B5)=l.map λp=>[B5 p]:=by
    rw[hul,show l.length=(l.map B5).length by rw[bw],L2,js];rfl
   rw[this,iB,an h0];rfl
  show aR.one Z E.ty false _=_;unfold aR.one;rw[show dN=12 from rfl,e];have ht:cI false (iB l)=true:=by rw[iB,an h0];rfl
  simp only[ht,bf]
end
end
end Go.Proofs.YtmbikbgdbbcbmaaGreatDoor
end
