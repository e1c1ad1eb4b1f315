/- Part 20 of the proof. -/
import Derived.Test.YtmbikbgdbbcbmaaGreatDoorY
import Derived.Test.YtmbikbgdbbcbmaaGreatDoorZ19
import Derived.Test.YtmbikbgdbbcbmaaGreatDoorZ18
import Derived.Test.YtmbikbgdbbcbmaaGreatDoorZ15
import Derived.Test.YtmbikbgdbbcbmaaGreatDoorZ17
import Derived.Test.YtmbikbgdbbcbmaaGreatDoorZ16
import Derived.Test.YtmbikbgdbbcbmaaGreatDoorZ2
import Derived.Test.YtmbikbgdbbcbmaaGreatDoorZ14
set_option maxHeartbeats 8000000
set_option linter.unusedVariables false
set_option maxRecDepth 100000
open Nat (reduceLT reduceAdd reduceEqDiff)
section
namespace Go.Proofs.YtmbikbgdbbcbmaaGreatDoor
open Go Go.Ax Go.AxS
section
section
variable {E:Env}{Z:Sg}{K:V->Sg->Prop}
theorem RgV.bD {rs:List aD}{v:V}(hg:RgV rs v):Ax.bD v=true:=by
 obtain⟨rv,lv,nv,rfl,-⟩:=hg;rfl
end
end
section
section
variable {E:Env}{Z:Sg}{K:V->Sg->Prop}
def pH (ok:aC->Bool) (nx:aC->List aC) (b:aC):Nat->aC->List (List aC)
 |0,_=>[]
 |d+1,x=>if ok x=false then [] else if x=b then [[x]] else (nx x).flatMap λy=>(pH ok nx b d y).map (x :: ·)
theorem Fs {α:Type}{g:aC->List α}{M:Nat}:∀(l:List aC) (out:List α),out.length<=M->l.foldl (λout y=>out++(g y).take (M-out.length)) out=out++(l.flatMap g).take (M-out.length)
 | [],out,_=>by simp
 |y::l,out,h=>by
  rw[jm,Fs l _ (by rw[By,bw];omega),j6,cw,List.take_append,By,bw];congr 3;omega
theorem EA {rs:List aD}(hf:Fits rs) {ok:aC->Bool}{b:aC}{many:Nat}:∀(d:Nat) (p:List aC) (x:aC) (out:List (List aC)),deep rs x<d->out.length<=many->lS ok (bH rs) b many d (p++[x]) x out=out++((pH ok (bH rs) b d x).map (p ++ ·)).take (many-out.length)
 |0,_,_,_,h,_=>by omega
 |d+1,p,x,out,hd,hout=>by
  unfold lS pH;by_cases hge:many<=out.length
  ·rw[az (.inr hge),show many-out.length=0 by omega,ki,ig]
  ·cases hok:ok x with
   |false=>
    rw[az (.inl rfl),az rfl];simp
   |true=>
    have hn:¬ (true=false\/many<=out.length):=λh=>h.elim (λe=>by cases e) hge;rw[an hn,an (show ¬ (true=false) by decide)];by_cases hxb:x=b
    ·rw[az hxb,az hxb];simp only[bh,List.map_nil];rw[ak (by rw[dm];omega)]
    ·rw[an hxb,an hxb]
     have e:∀(l:List aC),(∀y∈l,y∈bH rs x)->∀out:List (List aC),out.length<=many->l.foldl (λout y=>lS ok (bH rs) b many d (p++[x]++[y]) y out) out=l.foldl (λout y=>out++((pH ok (bH rs) b d y).map ((p++[x]) ++ ·)).take (many-out.length)) out:=by
      intro l
      induction l with
      |nil=>intro _ out _;rfl
      |cons y l ih=>
       intro hl out ho;have hdy:=GM hf (hl y (IN ..));rw[jm,jm,EA hf d (p++[x]) y out (by omega) ho];exact ih (λz hz=>hl z (ae _ hz)) _ (by rw[By,bw];omega)
     rw[e _ (λy hy=>hy) out hout,Fs (g:=λy=>(pH ok (bH rs) b d y).map ((p++[x]) ++ ·)) _ _ hout];congr 2;rw[List.map_flatMap];congr 1;funext y;rw[jv];congr 1;funext z;simp
theorem J0 {rs:List aD}(hf:Fits rs) {a b:aC}{m:Int}(ha:a∈eE rs):jA rs a b m=(pH (E1 rs b) (bH rs) b 2001 a).take (manyN m):=by
 unfold jA;rw[az ha];have h:=EA hf (ok:=E1 rs b) (b:=b) (many:=manyN m) 2001 [] a [] (Nat.lt_succ_of_le (Cg rs a)) (ij _);rw[cz]at h;rw[h,cz,b9,Nat.sub_zero];congr 1;simp
section
variable {rs:List aD}{b:aC}
theorem V2 {x y:aC}:x∈gC rs y ↔ y∈bH rs x:=by rw[wG,nC]
open Classical in
theorem J7 {y:aC}:E1 rs b y=true ↔ ∃n,Rk (gC rs) (λx=>x∈[b]/\x∈eE rs) n y:=by
 unfold E1;exact decide_eq_true_iff
theorem LG {x:aC}(h:E1 rs b x=true):x=b/\b∈eE rs\/∃y,y∈bH rs x/\E1 rs b y=true:=by
 obtain⟨n,hn⟩:=J7.1 h
 induction n with
 |zero=>exact .inl ⟨cn.1 hn.1,by have:=cn.1 hn.1;rw[<- this];exact hn.2⟩
 |succ n ih=>
  rcases hn with hn | ⟨y,hy,hxy⟩
  ·exact ih hn
  ·exact .inr ⟨y,V2.1 hxy,J7.2 ⟨n,hy⟩⟩
theorem VW {x:aC}(h:E1 rs b x=true):x∈eE rs:=by
 rcases LG h with⟨rfl,hb⟩ | ⟨y,hy,-⟩
 ·exact hb
 ·exact AN hy
theorem G9:∀(d:Nat) {x:aC}{p:List aC},p∈pH (E1 rs b) (bH rs) b d x->Way rs p/\p[0]?=some x/\p[p.length-1]?=some b
 |0,_,_,h=>by cases h
 |d+1,x,p,h=>by
  unfold pH at h;split at h
  ·cases h
  ·rename_i hok
   have hok:E1 rs b x=true:=by cases ho:E1 rs b x with
    |true=>rfl
    |false=>exact absurd ho hok
   split at h
   ·rename_i hxb;rw[cn.1 h];exact⟨.one (VW hok),rfl,by rw[hxb];rfl⟩
   ·obtain⟨y,hy,hp⟩:=jb.1 h;obtain⟨r,hr,rfl⟩:=cv.1 hp;obtain⟨h1,h2,h3⟩:=G9 d hr;have hl:=iy.2 h1.ne;refine⟨h1.cons (AN hy) h2 hy,rfl,?_⟩;rw[af,o5];rw[show r.length=(r.length-1)+1 by omega,ck];exact h3
theorem Ez (hf:Fits rs):∀(d:Nat) {x:aC},deep rs x<d->E1 rs b x=true->pH (E1 rs b) (bH rs) b d x≠[]
 |0,_,h,_=>by omega
 |d+1,x,hd,hok=>by
  unfold pH;rw[hok,an (show ¬ (true=false) by decide)];split
  ·simp
  ·rename_i hxb;rcases LG hok with⟨e,-⟩ | ⟨y,hy,hoy⟩
   ·exact absurd e hxb
   ·intro he;have hdy:=GM hf hy;obtain⟨p,hp⟩:=List.exists_mem_of_ne_nil _ (Ez hf d (by omega) hoy);have:x::p∈(bH rs x).flatMap λy=>(pH (E1 rs b) (bH rs) b d y).map (x :: ·):=jb.2 ⟨y,hy,cv.2 ⟨p,hp,rfl⟩⟩;rw[he]at this;cases this
end
def nK:List aC->List aC->Bool
 | [],[]=>false
 | [],_::_=>true
 |_::_,[]=>false
 |x::p,y::r=>if x=y then nK p r else lt x y
theorem D7 (x:aC) (p r:List aC):nK (x::p) (x::r)=nK p r:=by rw[nK,az rfl]
theorem Cp {rs:List aD} (ok:aC->Bool) (b:aC):∀(d:Nat) (x:aC),(pH ok (bH rs) b d x).Pairwise λp r=>nK p r=true
 |0,_=>.nil
 |d+1,x=>by
  unfold pH;split
  ·exact .nil
  ·split
   ·exact List.pairwise_singleton ..
   ·have hup:Up (bH rs x):=vA rs x
    have head:∀(d:Nat) (y:aC) (p:List aC),p∈pH ok (bH rs) b d y->∃r,p=y::r:=by
     intro d y p hp;cases d with
     |zero=>cases hp
     |succ d=>
      unfold pH at hp;split at hp
      ·cases hp
      ·split at hp
       ·exact⟨[],cn.1 hp⟩
       ·obtain⟨z,hz,hq⟩:=jb.1 hp;obtain⟨r,hr,rfl⟩:=cv.1 hq;exact⟨r,rfl⟩
    generalize bH rs x=l at hup
    induction l with
    |nil=>exact .nil
    |cons y l ih=>
     rw[j6,List.pairwise_append];obtain⟨h1,h2⟩:=js.1 hup;refine⟨?_,ih h2,?_⟩
     ·refine List.pairwise_map.2 ((Cp ok b d y).imp ?_);intro p r hpr;rw[D7];exact hpr
     ·intro p hp r hr;obtain⟨p',hp',rfl⟩:=cv.1 hp;obtain⟨z,hz,hr2⟩:=jb.1 hr;obtain⟨r',hr',rfl⟩:=cv.1 hr2;obtain⟨p'',rfl⟩:=head d y p' hp';obtain⟨r'',rfl⟩:=head d z r' hr';have hlt:=h1 z hz;rw[D7,nK,an]
      ·exact hlt
      ·rintro rfl;rw[lt_irrefl]at hlt;cases hlt
end
end
section
structure TpE (E:Env):Prop where
 hs8:E.hspec 8=none
 XK:E.spec 8=none
 fn8:E.fn 8=some (aA Tryz.f8)
 md8:E.mode 8=.eS
 ab6:aM E (cutAt [1,1,1,1,1,1,1,1,1,1,1,0,1,2,2,1,1,0,2,1,0] (aA Tryz.f8).code)=true
 hs44:E.hspec 44=none
 sp44:E.spec 44=none
 fn44:E.fn 44=some (aA Tryz.f44)
 md44:E.mode 44=.eS
 ack:aM E (cutAt [1,0,1,2,2,1,0,2,0] (aA Tryz.f44).code)=true
 acj:aM E (cutAt [1,0,1,2,2,1,0,2,1,0,0] (aA Tryz.f44).code)=true
 An:E.ty 54=some { kd:=.sl 23,size:=1,bytes:=24,zero:=.aF }
 beg:∀{Z:Sg}{K:V->Sg->Prop},aB E 11 [] Z K=K (.bool true) Z
section
variable {E:Env}{Z:Sg}{K:V->Sg->Prop}
theorem XH (p:Int):∃j:Nat,j<40/\wr .i64 (p.tmod 40+40)=p.tmod 40+40/\(p.tmod 40+40).tmod 40=(j:Int):=by
 have h1:=Int.tmod_lt_of_pos p (b:=40) (by omega);have h2:=Int.lt_tmod_of_pos p (b:=40) (by omega);have h3:=Int.tmod_nonneg (a:=p.tmod 40+40) 40 (by omega);have h4:=Int.tmod_lt_of_pos (p.tmod 40+40) (b:=40) (by omega);exact⟨((p.tmod 40+40).tmod 40).toNat,by omega,Ci _ (by omega) (by omega),by omega⟩
theorem Small.raw {x:aD}(h:Small x):Raw x:=⟨λs hs=>by have:=h.args s hs;omega,λs hs=>by have:=h.lits s hs;omega⟩
theorem KX (p:List aC):Ch (xH p) p:=.inr ⟨false,rfl⟩
theorem PZ (tp:E.ty 54=some { kd:=.sl 23,size:=1,bytes:=24,zero:=.aF }) (l:List (List aC)) (Z:Sg):lenOf E Z 54 (jS l)=some l.length:=by
 unfold lenOf jS;simp only[tp];by_cases h:l=[]
 ·rw[az h,h];rfl
 ·rw[an h];show some (l.map λp=>[xH p]).length=_;rw[bj]
theorem Ms (tp:E.ty 54=some { kd:=.sl 23,size:=1,bytes:=24,zero:=.aF })(hl:Lb.bY E) {l:List (List aC)}{i:Nat}{p:List aC}(hp:l[i]?=some p):indexAddr E 54 (jS l) (.int .i64 (i:Int))=some (.cZ false [xH p]):=by
 have hne:l≠[]:=λe=>by rw[e]at hp;cases hp
 unfold jS;rw[an hne];unfold indexAddr;have hneg:¬ ((i:Int)<0):=by omega
 simp only[hneg,ay,tp,hl.iI,dz,jr,hp,cg];rfl
theorem T5 (h:bE E)(hl:Lb.bY E) (tp:TpE E):∀{a b:V}{p r:List aC},LS eW 51 Z a p->LS eW 51 Z b r->p.length<=1000000->r.length<=1000000->aB E 44 [a,b] Z K=K (.bool (nK p r)) Z:=λ{a b p r} ha hb hpl hrl=>by
 refine aB.of ?_;obtain⟨a',ea,ia⟩:=iZ h ha;obtain⟨b',eb,ib⟩:=iZ h hb;have d4:=tp.ack;simp only[aA,Tryz.f44,cutAt,aq]at d4;have d5:=tp.acj;simp only[aA,Tryz.f44,cutAt,aq]at d5;rw[aI tp.hs44 tp.sp44 tp.fn44 tp.md44 (args':=[a',b']) (by simp only[aX,ea,eb]),aW (by kernel_rfl)];have la:=lC h ia;have lb:=lC h ib;simp only[aA,Tryz.f44,KP,↓reduceIte,reduceLT,reduceAdd];refine aV (λi F Y=>F.get 0=a'/\F.get 1=b'/\F.get 5=.int .i64 (i:Int)/\nK p r=nK (p.drop i) (r.drop i)) (min p.length r.length) ?_ ?_ (min p.length r.length) 0 _ _ (by omega) (iU (by simp +decide only[GS,aj]) (by rw[fc,fc]))
 ·rintro i F Y hi ⟨g0,g1,g5,heq⟩ next
  obtain⟨x,hx⟩:∃x,p[i]?=some x:=⟨_,AT (by omega)⟩;obtain⟨y,hy⟩:∃y,r[i]?=some y:=⟨_,AT (by omega)⟩;obtain⟨gx,ex⟩:=oK h ia hx;obtain⟨gy,ey⟩:=oK h ib hy;have hl1:=dP (show i<p.length by omega);have hl2:=dP (show i<r.length by omega);have hadd:=bW i (by omega);have e0:=λc=>wK hl (b:=c) x y
  have dx:p.drop i=x::p.drop (i+1):=by
   obtain⟨hlt,e⟩:=AI.1 hx;rw[o9 hlt,e]
  have dy:r.drop i=y::r.drop (i+1):=by
   obtain⟨hlt,e⟩:=AI.1 hy;rw[o9 hlt,e]
  rw[dx,dy,nK]at heq;rw[aG];by_cases hxy:x=y
  ·rw[az hxy]at heq;rw[BY hxy]at e0;simp only[KP,Ax.loadAt,↓reduceIte,reduceEqDiff,reduceLT,reduceAdd,reduceCtorEq,h.cE,g0,g1,g5,la,lb,hl1,hl2,ex,ey,e0,hadd,aT d4,bK];exact next _ _ (iU (by simp +decide only[GS,g0,g1,aj]) heq)
  ·rw[an hxy]at heq;rw[AS hxy]at e0;have kl:=λ(Y:Sg)=>dD λK=>Lb.TZ (Z:=Y) (K:=K) hl x.1 y.1 x.2 y.2;simp only[KP,Ax.loadAt,↓reduceIte,reduceEqDiff,reduceLT,reduceAdd,reduceCtorEq,h.cE,g0,g1,g5,la,lb,hl1,hl2,ex,ey,e0,kl,cG,aU,aT d4,aT d5,bK];rw[heq];exact rfl
 ·rintro F Y ⟨g0,g1,g5,heq⟩
  have fin:nK p r=decide (p.length<r.length):=by
   rw[heq];rcases cj p.length r.length with g | g
   ·rw[ju (by omega),List.drop_length,BY g]
    have:r.drop p.length≠[]:=λe=>by
     have:=au List.length e;rw[qi,b9]at this;omega
    cases hd:r.drop p.length with
    |nil=>exact absurd hd this
    |cons y t=>rfl
   ·rw[Nat.min_eq_right (by omega),List.drop_length,AS (by omega)];cases p.drop r.length <;> rfl
  have ef:decide ((p.length:Int)<(r.length:Int))=decide (p.length<r.length):=nj.2 (by omega);rw[aG];by_cases h1:p.length<=r.length
  ·rw[ju h1]at g5;have hlt:=dZ (bl p.length);simp only[KP,↓reduceIte,reduceEqDiff,reduceLT,reduceCtorEq,g0,g1,g5,la,lb,hlt,ef,cG,aU];rw[fin];exact rfl
  ·rw[Nat.min_eq_right (by omega)]at g5;have hl1:=dP (show r.length<p.length by omega);have hlt:=dZ (bl r.length);simp only[KP,↓reduceIte,reduceEqDiff,reduceLT,reduceCtorEq,g0,g1,g5,la,lb,hl1,hlt,ef,cG,aU];rw[fin];exact rfl
end
end
structure TwE (E:Env):Prop where
 hs7:E.hspec 7=none
 sp7:E.spec 7=none
 fn7:E.fn 7=some (aA Tryz.f7)
 md7:E.mode 7=.eS
 hs42:E.hspec 42=none
 sp42:E.spec 42=none
 fn42:E.fn 42=some (aA Tryz.f42)
 md42:E.mode 42=.eS
 z7_10:fJ E (opsOf (cutAt [1,1,1,1,1,1,1,1,0,0] (aA Tryz.f7).code))=.no
 p7_10:cH E .no (opsOf (cutAt [1,1,1,1,1,1,1,1,0,0] (aA Tryz.f7).code))=some [⟨1,3,true,false⟩,  ⟨1,4,true,false⟩]
 An:E.ty 54=some { kd:=.sl 23,size:=1,bytes:=24,zero:=.aF }
 beg:∀{Z:Sg}{K:V->Sg->Prop},aB E 11 [] Z K=K (.bool true) Z
end Go.Proofs.YtmbikbgdbbcbmaaGreatDoor
end
section
namespace Go.Proofs.YtmbikbgdbbcbmaaGreatDoor
open Go Go.Ax
theorem begL {Z:Sg}{K:V->Sg->Prop}:aB LE 11 [] Z K=K (.bool true) Z:=qL (s:=bJ t11) (args':=[]) (v:=.bool true) (by kernel_rfl) (by kernel_rfl) rfl (by kernel_rfl) rfl
theorem V8:bE LE:=by constructor <;> kernel_rfl
theorem V_:oF LE:=by constructor <;> kernel_rfl
theorem SF:Lb.bY LE:=by constructor <;> kernel_rfl
theorem Wa:yF LE:=by constructor <;> kernel_rfl
theorem V6:Ak LE:=by constructor <;> kernel_rfl
theorem V9:PsE LE:=by constructor <;> kernel_rfl
theorem V7:TpE LE:=by constructor <;> first | kernel_rfl | exact begL
theorem SJ:bE Uq:=by constructor <;> kernel_rfl
theorem SL:oF Uq:=by constructor <;> kernel_rfl
theorem P9:Lb.bY Uq:=by constructor <;> kernel_rfl
theorem SN:yF Uq:=by constructor <;> kernel_rfl
theorem SI:Ak Uq:=by constructor <;> kernel_rfl
theorem SK:Jo Uq:=by constructor <;> kernel_rfl
end Go.Proofs.YtmbikbgdbbcbmaaGreatDoor
end
section
namespace Go.Proofs.YtmbikbgdbbcbmaaGreatDoor
open Go Go.Ax Go.ChangeShapes Go.WideShapes Go.ChangeAt Go.RowKit
theorem RT:XJ.Aj (fF Tryz.prog (ground.env .nil)):=⟨⟨Uv,JL⟩,⟨JK,⟨JJ,JI⟩⟩⟩
theorem SH:cB Tryz.prog Uq:=zS.Mm _
theorem SG:fR Tryz.prog Uq:=zS.Md RT
theorem Xk:Ax.Alike Uq (ground.env .nil):=⟨rfl,rfl⟩
theorem YF:fF Tryz.prog (ground.env .nil) 38 mZ:=(Ga SJ SL P9 SN SI SK SH SG mixed).alike Xk
theorem U_:spL.Aj (fF Tryz.prog (ground.env .nil)):=⟨⟨Uv,⟨YF,JL⟩⟩,⟨JK,⟨JJ,JI⟩⟩⟩
theorem Rc {G:Ax.Ground Tryz.prog}(hG:mU G)(hgl:G.gl=Fo) {s:BT (List V->Option V)}(hs:s.Aj (fF Tryz.prog (G.env .nil))) {n f:Nat}{vs:List V}{W:World}(hW:W.ShapedOpen Tryz.prog)(h:Ax.call (G.env s) n f vs=some (.bool true)) {xs:List Value}(hv:fD (wV W) vs xs) :
  Calls Tryz.prog f xs.toArray W λe W'=>e=.returned (.bool true)/\Below W.heap.size W W':=by
 refine (DU (hG.Mm s) (hG.Md hs) mixed h (d:=wV W) rfl (U5 hW hgl) hv).mono ?_;rintro e w' ⟨x,d',rfl,rfl,h1,h2,h3,h4⟩;have hx:=h4.gH;subst hx;exact⟨rfl,h2.os,h2.tape,h2.output,h2.size,λk hk=>(h2.keep k hk λ⟨b,⟨o,ho,_⟩,_⟩=>by cases ho).1⟩
end Go.Proofs.YtmbikbgdbbcbmaaGreatDoor
end
section
namespace Go.Proofs.YtmbikbgdbbcbmaaGreatDoor
open Go Go.Ax Go.AxS
section
section
variable {E:Env}{Z:Sg}{K:V->Sg->Prop}
structure PwL (rs:List aD) (a b:aC) (j:Nat) (l:List (List aC)):Prop where
 len:l.length<=j
 way:∀p∈l,Way rs p/\p[0]?=some a/\p[p.length-1]?=some b
 ord:l.Pairwise λp r=>nK p r=true
 some:0<j->(∃w,Way rs w/\w[0]?=some a/\w[w.length-1]?=some b)->l≠[]
theorem VJ {rs:List aD}{a b:aC}{w:List aC}(h:Way rs w)(ha:w[0]?=some a)(hb:w[w.length-1]?=some b):E1 rs b a=true:=by
 have hl:=iy.2 h.ne;obtain⟨n,hn⟩:∃n,n+1=w.length:=⟨w.length-1,by omega⟩;have:=h.bN hb n 0 (y:=a) (by omega) ha;exact J7.2 ⟨n,this⟩
theorem Y4 {rs:List aD}(hf:Fits rs) (a b:aC) {m:Int}{j:Nat}(hm:manyN m=j):PwL rs a b j (jA rs a b m):=by
 by_cases ha:a∈eE rs
 ·rw[J0 hf ha,hm];refine⟨by rw[bw];omega,λp hp=>G9 _ (ji hp),(Cp _ _ _ _).sublist (List.take_sublist ..),λhj ⟨w,h1,h2,h3⟩=>?_⟩;have hne:=Ez (b:=b) hf 2001 (Nat.lt_succ_of_le (Cg rs a)) (VJ h1 h2 h3);intro e;have:=au List.length e;rw[bw,b9]at this;have:=iy.2 hne;omega
 ·have e:jA rs a b m=[]:=by unfold jA;rw[an ha]
  rw[e];refine⟨ij _,λp hp=>(by cases hp),.nil,λ_ ⟨w,h1,h2,_⟩=>absurd (h1.all _ (ag h2)) ha⟩
theorem PJ {j:Nat}(hj:j<40):manyN (j:Int)=j:=by unfold manyN;omega
theorem GV (h:bE E)(h':oF E)(hl:Lb.bY E) (q:yF E) (tr:Ak E) (ps:PsE E) (tp:TpE E) {a:V}{rs:List aD}(ha:LS dN 46 Z a rs)(hraw:∀x∈rs,Raw x) {x1:Bool}{s1:bC}(h1:s1.length<=9223372036854775806) {x2:Bool}{s2:bC}(h2:s2.length<=9223372036854775806) {x3:Int} (y3:IntKind.has .i64 x3):aB E 8 [a,.agg [.bool x1,.str s1],.agg [.bool x2,.str s2],.int .i64 x3] Z K=K (.bool true) Z:=by
 refine aB.of ?_;obtain⟨a',ea,ia⟩:=fE h ha;have e1:aU Z E.ty true (.agg [.bool x1,.str s1])=some (.agg [.bool x1,.str s1]):=rfl;have e2:aU Z E.ty true (.agg [.bool x2,.str s2])=some (.agg [.bool x2,.str s2]):=rfl;have e3:aU Z E.ty true (.int .i64 x3)=some (.int .i64 x3):=rfl;rw[aI tp.hs8 tp.XK tp.fn8 tp.md8 (args':=[a',.agg [.bool x1,.str s1],.agg [.bool x2,.str s2],.int .i64 x3]) (by simp only[aX,ea,e1,e2,e3]),aW (by kernel_rfl)];have kb:=λ(Y:Sg)=>dD λK=>tp.beg (Z:=Y) (K:=K);have d16:=tp.ab6;simp only[aA,Tryz.f8,cutAt,aq]at d16;obtain⟨j,hj,hw1,hw2⟩:=XH x3;rw[show (aA Tryz.f8).code=.seq (cutAt [0] (aA Tryz.f8).code) (.seq (cutAt [1,0] (aA Tryz.f8).code) (.seq (cutAt [1,1,0] (aA Tryz.f8).code) (.seq (cutAt [1,1,1,0] (aA Tryz.f8).code) (.seq (cutAt [1,1,1,1,0] (aA Tryz.f8).code) (cutAt [1,1,1,1,1] (aA Tryz.f8).code))))) from rfl];generalize hCC:(cutAt [1,1,1,1,1] (aA Tryz.f8).code)=CC;simp only[aA,Tryz.f8,KP,↓reduceIte,reduceEqDiff,reduceLT,reduceAdd,reduceCtorEq,h.cE,cutAt,kb];refine aN (Q7 h (ia.ls _ 46) hraw) ?_;rintro v σ' ⟨rfl,l0,iv0,hok0,hl14,hsm0⟩;have iv0':IS dN v l0:=qR iv0.is sP;have lv0:=dA h iv0'
 have hmin:gF false .i64 (l0.length:Int) [.int .i64 8]=some ((min l0.length 8:Nat):Int):=by
  unfold gF gF;simp only[ah,ay];by_cases g:l0.length<=8
  ·rw[an (by omega),ju g]
  ·rw[az (by omega),Nat.min_eq_right (by omega)];rfl
 obtain⟨w8,sl8,iw8,-⟩:=yO (E:=E) (ts:=22) (lo:=none) (hi:=some (.int .i64 ((min l0.length 8:Nat):Int))) (a:=0) (b:=min l0.length 8) h.BN rfl h.bM rfl iv0' (.inr rfl) (.inl ⟨rfl,rfl⟩) (ij _) (Nat.min_le_left ..);rw[fc]at iw8;simp only[KP,↓reduceIte,reduceEqDiff,reduceLT,reduceCtorEq,lv0,hmin,sl8];subst hCC;rw[show (cutAt [1,1,1,1,1] (aA Tryz.f8).code)=.seq (cutAt [1,1,1,1,1,0] (aA Tryz.f8).code) (.seq (cutAt [1,1,1,1,1,1,0] (aA Tryz.f8).code) (.seq (cutAt [1,1,1,1,1,1,1,0] (aA Tryz.f8).code) (.seq (cutAt [1,1,1,1,1,1,1,1,0] (aA Tryz.f8).code) (.seq (cutAt [1,1,1,1,1,1,1,1,1,0] (aA Tryz.f8).code) (.seq (cutAt [1,1,1,1,1,1,1,1,1,1,0] (aA Tryz.f8).code) (cutAt [1,1,1,1,1,1,1,1,1,1,1] (aA Tryz.f8).code)))))) from rfl];generalize hCC:(cutAt [1,1,1,1,1,1,1,1,1,1,1] (aA Tryz.f8).code)=CC;simp only[aA,Tryz.f8,KP,↓reduceIte,reduceLT,cutAt];refine aN (Q7 h (iw8.ls _ 46) (λx hx=>(hsm0 x (ji hx)).raw)) ?_;rintro v2 σ2 ⟨rfl,l,iv,hok,hl142,hsm⟩;have iv':IS dN v2 l:=qR iv.is sP;have hf:Fits l:=⟨hok,hsm⟩;simp only[KP,↓reduceIte,reduceLT];refine aN (KD h h' hl (iv'.ls _ 46) hsm (by omega)) ?_;rintro g σ3 ⟨rfl,⟨hno,-⟩ | ⟨-,hg⟩⟩
 ·exact absurd hok hno
 have kp:=λY=>dD λK=>T7 (Z:=Y) (K:=K) h h' hl q ps hg hf (x1,s1) (x2,s2) (j:Int);have pw:=Y4 hf (x1,s1) (x2,s2) (PJ hj);generalize jA l (x1,s1) (x2,s2) (j:Int)=W at kp pw;have lw:=PZ tp.An W;have hgt:decide ((j:Int)<(W.length:Int))=false:=AS (by have:=pw.len;omega);simp only[KP,Ax.loadAt,↓reduceIte,reduceEqDiff,reduceLT,Nat.reduceLeDiff,reduceAdd,Nat.reduceMul,reduceCtorEq,Int.reduceEq,h.iI,h.cE,hw1,hw2,kp,lw,hgt,mM];have sa:LS eW 51 [O.cells 51 [.bool x1,.str s1] true,O.cells 51 [.bool x2,.str s2] true,O.cells 51 [.bool x1,.str s1] true,O.cells 51 [.bool x2,.str s2] true] (.sl 2 0 1 none) [((x1,s1):aC)]:=.inr ⟨2,_,_,[row (x1,s1)],rfl,rfl,.one rfl,rfl⟩;have sb:LS eW 51 [O.cells 51 [.bool x1,.str s1] true,O.cells 51 [.bool x2,.str s2] true,O.cells 51 [.bool x1,.str s1] true,O.cells 51 [.bool x2,.str s2] true] (.sl 3 0 1 none) [((x2,s2):aC)]:=.inr ⟨3,_,_,[row (x2,s2)],rfl,rfl,.one rfl,rfl⟩;refine aN (W6 h h' hl q tr hg hf sa sb (by simp) (by simp) (λx hx=>by rw[cn.1 hx];exact h1)) ?_;rintro sv Y ⟨rfl,D,Sx,p0,dd,hsv,hup,hS,hR⟩
 have hp0l:p0.length<=2002:=by
  rcases hR with⟨rfl,-⟩ | ⟨j,x0,d,-,hx0,-,hpl,-,-⟩
  ·simp
  ·have:=dd.le x0 d hx0;omega
 have t:=RQ (a:=(x1,s1)) (b:=(x2,s2)) dd hS hR;clear hR hS dd hup sa sb;have ls:=lC h hsv.UC.is;subst hCC;rw[show (cutAt [1,1,1,1,1,1,1,1,1,1,1] (aA Tryz.f8).code)=.seq (.seq (cutAt [1,1,1,1,1,1,1,1,1,1,1,0,0] (aA Tryz.f8).code) (.block 0 (.loop (cutAt [1,1,1,1,1,1,1,1,1,1,1,0,1,2,2] (aA Tryz.f8).code)))) (.seq (cutAt [1,1,1,1,1,1,1,1,1,1,1,1,0] (aA Tryz.f8).code) .ret) from rfl];generalize hBB:(cutAt [1,1,1,1,1,1,1,1,1,1,1,0,1,2,2] (aA Tryz.f8).code)=BB;generalize hTT:(cutAt [1,1,1,1,1,1,1,1,1,1,1,1,0] (aA Tryz.f8).code)=TT;simp only[aA,Tryz.f8,KP,↓reduceIte,reduceEqDiff,reduceLT,cutAt,lw];have hWl:W.length<40:=Nat.lt_of_le_of_lt pw.len hj;refine aV (λi F Y=>F.get 10=g/\F.get 11=jS W/\F.get 12=sv/\F.get 3=.int .i64 (j:Int)/\F.get 5=.ref 0 0/\F.get 6=.ref 1 0/\F.get 48=.int .i64 (W.length:Int)/\F.get 49=.int .i64 (i:Int)/\Y[0]?=some (O.cells 51 [.bool x1,.str s1] true)/\Y[1]?=some (O.cells 51 [.bool x2,.str s2] true)) W.length ?_ ?_ W.length 0 _ _ (by omega) (QJ (by simp +decide only[GS,aj]) ⟨rfl,rfl⟩)
 ·rintro i F Y hi ⟨g10,g11,g12,g3,g5,g6,g48,g49,b0,b1⟩ next
  obtain⟨p,hp⟩:∃p,W[i]?=some p:=⟨_,AT hi⟩;have hpm:=ag hp;obtain⟨hway,hpa,hpb⟩:=pw.way p hpm;have hpl:=hway.len hf;have hp1:=iy.2 hway.ne;have hlt:=dP hi;have hadd:=bW i (by omega);have ew:=Ms tp.An hl hp;have il:IS eW (xH p) p:=(KX p).UC.is;have lp:=lC h il;obtain⟨ga,ea0⟩:=oK h il hpa;obtain⟨gb,eb0⟩:=oK h il hpb;have ea0:indexAddr E 23 (xH p) (.int .i64 0)=some (.cZ ga [.bool x1,.str s1]):=ea0;have hw3:wr .i64 ((p.length:Int)-1)=((p.length-1:Nat):Int):=by rw[Ci _ (by omega) (by omega)];omega
  have eqa:∀c,mP E 51 c (.agg [.bool x1,.str s1]) (.agg [.bool x1,.str s1])=some true:=λc=>(wK hl (x1,s1) (x1,s1)).trans (by rw[BY rfl]);have eqb:∀c,mP E 51 c (.agg [.bool x2,.str s2]) (.agg [.bool x2,.str s2])=some true:=λc=>(wK hl (x2,s2) (x2,s2)).trans (by rw[BY rfl]);have hsh:=t.short p hway hpa hpb;have hlt2:decide ((p.length:Int)<(p0.length:Int))=false:=AS (by omega);have kis:=aB.up (W_ (Z:=Y) h h' hl q tr hg hf (il.ls _ 51) (by omega));subst hBB;rw[aG];by_cases hi0:i=0
  ·have hgt0:decide ((0:Int)<(i:Int))=false:=AS (by omega);simp only[aA,Tryz.f8,KP,↓reduceIte,reduceEqDiff,reduceLT,Ax.loadAt,h.iI,cutAt,g10,g11,g48,g49,hlt,ew,aT d16,bK];refine aN (W_ (Z:=Y) h h' hl q tr hg hf (il.ls _ 51) (by omega)) ?_;rintro v1 τ2 ⟨rfl,bb,rfl,hb⟩;obtain rfl:=hb.2 hway;simp only[KP,Ax.loadAt,↓reduceIte,reduceEqDiff,reduceLT,reduceAdd,h.iI,h.cE,g5,g6,g11,g12,g49,b0,b1,ew,ea0,eb0,eqa,eqb,lp,ls,hw3,hlt2,hgt0,hadd];exact next _ _ (QJ (by simp +decide only[GS,g10,g11,g12,g3,g5,g6,g48,aj]) ⟨b0,b1⟩)
  ·have hgt0:decide ((0:Int)<(i:Int))=true:=BY (by omega);obtain⟨r,hr⟩:∃r,W[i-1]?=some r:=⟨_,AT (by omega)⟩;have hw4:wr .i64 ((i:Int)-1)=((i-1:Nat):Int):=by rw[Ci _ (by omega) (by omega)];omega
   have er:=Ms tp.An hl hr;have ir:IS eW (xH r) r:=(KX r).UC.is;have hrl:=(pw.way r (ag hr)).1.len hf
   have hah:nK r p=true:=by
    have h1:=AI.1 hr;have h2:=AI.1 hp;have:=(List.pairwise_iff_getElem.1 pw.ord) (i-1) i h1.1 h2.1 (by omega);rw[h1.2,h2.2]at this;exact this
   have kah:=λY=>dD λK=>(T5 (Z:=Y) (K:=K) h hl tp (ir.ls Y 51) (il.ls Y 51) (by omega) (by omega)).trans (by rw[hah]);simp only[aA,Tryz.f8,KP,↓reduceIte,reduceEqDiff,reduceLT,Ax.loadAt,h.iI,cutAt,g10,g11,g48,g49,hlt,ew,aT d16,bK];refine aN (W_ (Z:=Y) h h' hl q tr hg hf (il.ls _ 51) (by omega)) ?_;rintro v1 τ2 ⟨rfl,bb,rfl,hb⟩;obtain rfl:=hb.2 hway;simp only[KP,Ax.loadAt,↓reduceIte,reduceEqDiff,reduceLT,reduceAdd,h.iI,h.cE,g5,g6,g11,g12,g49,b0,b1,ew,er,ea0,eb0,eqa,eqb,lp,ls,hw3,hw4,hlt2,hgt0,hadd,kah];exact next _ _ (QJ (by simp +decide only[GS,g10,g11,g12,g3,g5,g6,g48,aj]) ⟨b0,b1⟩)
 ·rintro F Y ⟨g10,g11,g12,g3,g5,g6,g48,g49,b0,b1⟩;have hlt:=dZ (bl W.length);subst hBB hTT;rw[aG];by_cases hj0:j=0
  ·have z1:decide ((j:Int)=0)=true:=BY (by omega);simp only[aA,Tryz.f8,KP,↓reduceIte,reduceEqDiff,reduceLT,cutAt,g3,g48,g49,hlt,z1,cG,aU];exact rfl
  ·have z1:decide ((j:Int)=0)=false:=AS (by omega)
   have hsame:decide ((W.length:Int)=0)=decide ((p0.length:Int)=0):=by
    refine nj.2 ?_;constructor
    ·intro e;have hw0:W=[]:=ik.1 (by omega)
     have:p0=[]:=oc λhne=>by
      obtain⟨k1,k2,k3⟩:=t.way hne;exact pw.some (by omega) ⟨p0,k1,k2,k3⟩ hw0
     rw[this];rfl
    ·intro e;have hp0:p0=[]:=ik.1 (by omega)
     have:W=[]:=oc λhne=>by
      obtain⟨w,hw⟩:=List.exists_mem_of_ne_nil _ hne;obtain⟨k1,k2,k3⟩:=pw.way w hw;exact t.some w k1 k2 k3 hp0
     rw[this];rfl
   have eqs:∀(c:Bool) (x:Bool),mP E 4 c (.bool x) (.bool x)=some true:=λc x=>by unfold mP;rw[h.Ee];simp
   simp only[aA,Tryz.f8,KP,↓reduceIte,reduceEqDiff,reduceLT,cutAt,g3,g11,g12,g48,g49,hlt,lw,ls,z1,hsame,eqs,cG,aU];exact rfl
end
end
theorem CR (a0:V) (l0:List aD) (i0:IS dN a0 l0) (r0:∀x∈l0,Raw x) (x1:Bool) (s1:bC)(h1:s1.length<=9223372036854775806) (x2:Bool) (s2:bC)(h2:s2.length<=9223372036854775806) (x3:Int) (y3:IntKind.has .i64 x3):∃k,Ax.call LE k 8 [a0,.agg [.bool x1,.str s1],.agg [.bool x2,.str s2],.int .i64 x3]=some (.bool true):=by
 have h:aB LE 8 [a0,.agg [.bool x1,.str s1],.agg [.bool x2,.str s2],.int .i64 x3] [] (λv _=>v=.bool true):=by
  rw[GV V8 V_ SF Wa V6 V9 V7 (i0.ls [] 46) r0 (x1:=x1) (s1:=s1) h1 (x2:=x2) (s2:=s2) h2 (x3:=x3) y3]
 obtain⟨n,v,σ',hc,rfl⟩:=h;refine⟨n,?_⟩
 have hm:aX (aU [] LE.ty true) [a0,.agg [.bool x1,.str s1],.agg [.bool x2,.str s2],.int .i64 x3]=some [a0,.agg [.bool x1,.str s1],.agg [.bool x2,.str s2],.int .i64 x3]:=by
  simp only[aX,pK i0 [],(show aU [] LE.ty true (.agg [.bool x1,.str s1])=some (.agg [.bool x1,.str s1]) from rfl),(show aU [] LE.ty true (.agg [.bool x2,.str s2])=some (.agg [.bool x2,.str s2]) from rfl),(show aU [] LE.ty true (.int .i64 x3)=some (.int .i64 x3) from rfl)]
 unfold g_ at hc;rw[show LE.hspec 8=none by kernel_rfl,show LE.spec 8=none by kernel_rfl,show LE.fn 8=some (aA Tryz.f8) by kernel_rfl,show LE.mode 8=.eS by kernel_rfl]at hc;simp only[hm]at hc;unfold Ax.call;rw[show LE.fn 8=some (aA Tryz.f8) by kernel_rfl];dsimp only;cases he:enter LE (ev LE n) (aA Tryz.f8) [a0,.agg [.bool x1,.str s1],.agg [.bool x2,.str s2],.int .i64 x3] [] with
 |none=>rw[he]at hc;cases hc
 |some y=>
  rw[he]at hc;dsimp only at hc ⊢;cases hs:cG y.2 LE.ty false y.1 with
  |none=>rw[hs]at hc;cases hc
  |some z=>rw[hs]at hc;cases hc;rfl
end Go.Proofs.YtmbikbgdbbcbmaaGreatDoor
end
