/- Part 1 of the proof. -/
import Derived.Test.YtmbikbgdbbcbmaaGreatDoorY
import Derived.Test.YtmbikbgdbbcbmaaGreatDoorZ0
import Derived.Lib.Builder
import Derived.Lib.UnsafeStr
import Derived.Laws.BytesString
import Derived.Laws.RangeString
import Derived.Maps.RangeRun
import Derived.LoopN
set_option maxHeartbeats 8000000
set_option linter.unusedVariables false
open Go.Result renaming andThen_ok→ν,andThen→m5
open Go renaming run_underlying→ξ,Value→ο,Operand→χ,World→Γ,MapEntry→ad,Program→ar,Oper→cd,IntKind→fz
open Go.Sem renaming run_bind→υ,run_pure→ψ,run_ite→gf
open Go.Region renaming binds→cY
open UInt8 renaming toNat→c7,ofNat→qk
open Go.Instr renaming checkKey→fp,sureAddr→ms
open Go.Addr renaming add_lit→i6
open Go.Ax renaming builtin→mi
open List (getElem?_take)
section
namespace Go.Ax
open Go
section
section
variable {P:ar}{E:Env}{c:Cx}
theorem yD(z:Array ο)(m:Nat){size:Nat}(hz:z.size=size) :
  ((Array.range (m*size)).map ((if m*size=0 then #[] else z)[· % (if m*size=0 then #[] else z).size]!)).toList=rP m z.toList:=by
 subst hz;by_cases h:m*z.size=0
 ·have:rP m z.toList=[]:=by
   rcases Nat.mul_eq_zero.1 h with rfl | h0
   ·rfl
   ·have:z = #[]:=Array.eq_empty_of_size_eq_zero h0;subst this
    induction m with
    |zero=>rfl
    |succ m ih=>simp[rP]at *;exact ih
  rw[this,h];simp
 ·simp only[h,b9];have:=oU z m;simpa [Builtin.zeroCells]using this
theorem GO{z:List V}(h:z.all V.aZ=true)(n:Nat):(gG n z).all V.aZ=true:=by
 induction n with
 |zero=>rfl
 |succ n ih=>simp only[gG,lg,h,ih,qa]
theorem Fs(hs:SR E c){e:Nat}{i:Ty}(hi:E.ty e=some i){cs:List V}{xs:Array ο}(hv:fH c cs xs.toList)(hok:cs.all V.aZ=true){len cap:Nat}(hl:len<=cap)(hx:xs.size=cap*i.size) :
  ∃c',c'.w={ c.w with heap:=c.w.heap.push (.cells xs e (0,0)) }/\c'.Z=c.Z++[.cells e cs true]/\Ext c c'/\SR E c'/\VR c' (.sl c.Z.length 0 len none) (.slice (some ⟨c.w.heap.size,0,none⟩) len cap):=by
 obtain⟨c',h1,h2,h3,h4,h5,h6,h7⟩:=AZ hs hi hv hok;refine⟨c',h1,h2,h3,h4,?_⟩;rw[<- h5];exact .sl _ _ _ _ _ (by rw[h2];simp) hl (λk hk=>by cases hk) (λ_=>by rw[h6,h7,hx];simp)
theorem ML{place:Nat->Option (Nat × Nat)}:∀{ps:List (Nat × V)}{cells cells':List V},fill place cells ps=some cells'->cells.all V.aZ=true->cells'.all V.aZ=true
 | [],cells,cells',h,hk=>by simp only[fill]at h;cases h;exact hk
 |(n,v)::ps,cells,cells',h,hk=>by
  simp only[fill]at h;split at h
  ·cases h
  ·split at h
   ·cases h
   ·rename_i hc;simp only[fl,af,ql,Bool.not_eq_true,Bool.not_eq_false']at hc;exact ML h (Ql hk hc.2)
theorem Bf(he:cG P E)(hs:SR E c){t e:Nat}{si i:Ty}(hsi:E.ty t=some si)(hk:si.kd=.sl e)(hi:E.ty e=some i){len:Nat}{ps:List (Nat × V)}{qs:Array (Nat × ο)}(hp:PR c ps qs.toList)
  (hle:len*i.size<=16777216){cs:List V}(h:fill (λj=>some (j*i.size,i.size)) (gG len i.zero.cells) ps=some cs) :
  gP E c ((Instr.buildSlice t len qs).run P c.w) (.sl c.Z.length 0 len none) (c.Z++[.cells e cs true]):=by
 have ht:=he.ty e i hi;obtain⟨d,hd,hkd⟩:=(he.ty t si hsi).kd;rw[hk]at hkd;simp only[pI]at hkd;subst hkd;obtain⟨z,hz,hr,hzs⟩:=ht.zero;have hv:VR c i.zero z:=(hr _ _).vr
 have hbase:fH c (gG len i.zero.cells) (((Array.range (len*i.size)).map ((if len*i.size=0 then #[] else z.cells)[· % (if len*i.size=0 then #[] else z.cells).size]!))).toList:=by
  rw[yD _ _ hzs];exact zH hv.cells len
 obtain⟨arr,r1,r2,r3⟩:=tT (c:=c) _ hp hbase h;obtain⟨c',q1,q2,q3,q4,q5⟩:=Fs hs hi r2 (ML h (GO (hr c.w c.bE).lQ len)) (OF len) (by rw[r3];simp);refine⟨c',_,?_,q2,q3,q4,q5⟩;unfold Instr.buildSlice;simp only[υ,ξ hd,ν,ht.size];rw[gf,an (by omega)];by_cases h0:len*i.size=0
 ·simp only[h0,bf]at r1 ⊢;simp only[υ,ψ,ν];rw[r1];simp[newRow,q1]
 ·simp only[h0,b9]at r1 ⊢;simp only[υ,ψ,hz,ν];rw[r1];simp[newRow,q1]
theorem B9(he:cG P E)(hs:SR E c){t e:Nat}{si i:Ty}(hsi:E.ty t=some si)(hk:si.kd=.sl e)(hi:E.ty e=some i){k k':fz}{n m:Int}(h0:0<=n)(h1:n<=m)(h2:m*i.bytes<=1099511627776)(h3:m<=1099511627776) :
  gP E c ((Instr.makeSlice t (.int k n) (.int k' m)).run P c.w) (.sl c.Z.length 0 n.toNat none) (c.Z++[.cells e (gG m.toNat i.zero.cells) true]):=by
 have ht:=he.ty e i hi;obtain⟨d,hd,hkd⟩:=(he.ty t si hsi).kd;rw[hk]at hkd;simp only[pI]at hkd;subst hkd;obtain⟨z,hz,hr,hzs⟩:=ht.zero;have hv:VR c i.zero z:=(hr _ _).vr;obtain⟨inf,hinf,hsz,hby,_⟩:=ht.info
 have hbase:fH c (gG m.toNat i.zero.cells) (((Array.range (m.toNat*i.size)).map ((if m.toNat*i.size=0 then #[] else z.cells)[· % (if m.toNat*i.size=0 then #[] else z.cells).size]!))).toList:=by
  rw[yD _ _ hzs];exact zH hv.cells _
 obtain⟨c',q1,q2,q3,q4,q5⟩:=Fs hs hi hbase (GO (hr c.w c.bE).lQ _) (len:=n.toNat) (cap:=m.toNat) (by omega) (by simp);refine⟨c',_,?_,q2,q3,q4,q5⟩;have w1:IntKind.i64.wrap n=n:=Gk _ _ (by simp only[lo];omega) (by simp only[Ax.hi];omega);have w2:IntKind.i64.wrap m=m:=Gk _ _ (by simp only[lo];omega) (by simp only[Ax.hi];omega)
 have hb:¬ ((decide (m<0)||decide ((i.bytes:Int)*m > 2 ^ 48))||decide (n<0)||decide (n > m))=true:=by
  have:(i.bytes:Int)*m=m*i.bytes:=Int.mul_comm _ _;simp only[fl,af,ql];omega
 unfold Instr.makeSlice;simp only[υ,ξ hd,ν,asInt,asIntOf,ψ,run_typeInfo hinf,w1,w2,hby];rw[gf,an hb];simp only[υ,run_askRoom,ν,ht.size];by_cases hm0:m.toNat*i.size=0
 ·simp only[hm0,bf]at q1 ⊢;simp[newRow,q1]
 ·simp only[hm0,b9]at q1 ⊢;simp[newRow,q1,hz]
theorem qM{n d r:Nat}(h:bound n none d=some r):r=d:=by simp only[bound]at h;injection h with h;exact h.symm
theorem nR{n d r:Nat}{v:V}(h:bound n (some v) d=some r):∃k i,v=.int k i/\0<=i/\i<=n/\r=i.toNat:=by
 unfold bound at h;split at h
 ·rename_i hv;cases hv
 ·rename_i k i hv;split at h
  ·rename_i hc;injection h with h;simp only[ak,af]at hc;injection hv with hv;exact⟨k,i,hv,hc.1,hc.2,h.symm⟩
  ·cases h
 ·cases h
inductive OR (c:Cx):Option V->Option ο->Prop
 |none:OR c none none
 |some (v:V) (x:ο)(h:VR c v x):OR c (some v) (some x)
theorem iD{isSlice:Bool}{len cap:Nat}{lo hi mx:Option V}{lo' hi' mx':Option ο}(h1:OR c lo lo')(h2:OR c hi hi')(h3:OR c mx mx'){l h m:Nat}(hnm:(mx.isSome&&hi.isNone)=false)
  (hm:∀d,mx=none\/bound cap mx d=some m)(hm0:mx=none->m=cap)(hh:hi=none\/∃d,bound m hi d=some h)(hh0:hi=none->h=len)(hl:∃d,bound h lo d=some l)(hl0:lo=none->l=0)(w:Γ) :
  (Instr.sliceBounds isSlice len cap lo' hi' mx').run P w=.ok (l,h,m) w:=by
 have sb:∀{n d r:Nat}{v:V}{x:ο}{code:BoundsCode},bound n (some v) d=some r->VR c v x->(Instr.sliceBound x n code).run P w=.ok r w:=by
  intro n d r v x code hb hv;obtain⟨k,i,rfl,g1,g2,rfl⟩:=nR hb;rw[hv.eG];simp[Instr.sliceBound,asIntOf,g1,g2]
 unfold Instr.sliceBounds;cases h3 with
 |none=>
  have:=hm0 rfl;subst this;cases h2 with
  |none=>
   have:=hh0 rfl;subst this;cases h1 with
   |none=>have:=hl0 rfl;subst this;rfl
   |some v x hv=>
    obtain⟨d,hd⟩:=hl;simp only[υ,ψ,ν,sb hd hv]
  |some v2 x2 hv2=>
   obtain⟨d2,hd2⟩:=hh.resolve_left (by simp);cases h1 with
   |none=>have:=hl0 rfl;subst this;simp only[υ,ψ,ν,sb hd2 hv2]
   |some v x hv=>
    obtain⟨d,hd⟩:=hl;simp only[υ,ψ,ν,sb hd2 hv2,sb hd hv]
 |some v3 x3 hv3=>
  have hd3:=(hm 0).resolve_left (by simp);cases h2 with
  |none=>simp at hnm
  |some v2 x2 hv2=>
   obtain⟨d2,hd2⟩:=hh.resolve_left (by simp);cases h1 with
   |none=>have:=hl0 rfl;subst this;simp only[υ,ψ,ν,sb hd2 hv2,sb hd3 hv3]
   |some v x hv=>
    obtain⟨d,hd⟩:=hl;simp only[υ,ψ,ν,sb hd2 hv2,sb hd hv,sb hd3 hv3]
theorem iP{n d r:Nat}{x:Option V}(h:bound n x d=some r)(hx:x=none):r=d:=by subst hx;exact qM h
theorem Eg{n n' d r:Nat}{v:V}(h:bound n (some v) d=some r)(hn:n<=n'){d':Nat}:bound n' (some v) d'=some r:=by
 obtain⟨k,i,rfl,h1,h2,rfl⟩:=nR h;simp only[bound];rw[az (by simp only[ak,af];constructor <;> omega)]
theorem BW{n n' d r:Nat}{v:V}(h:bound n (some v) d=some r)(hn:r<=n'){d':Nat}:bound n' (some v) d'=some r:=by
 obtain⟨k,i,rfl,h1,h2,rfl⟩:=nR h;simp only[bound];rw[az (by simp only[ak,af];constructor <;> omega)]
theorem Eh{n d r:Nat}{v:V}(h:bound n (some v) d=some r):r<=n:=by
 obtain⟨k,i,_,h1,h2,rfl⟩:=nR h;omega
theorem nC{n d r:Nat}{x:Option V}(h:bound n x d=some r)(hd:d<=n):r<=n:=by
 cases x with
 |none=>rw[qM h];exact hd
 |some v=>obtain⟨k,i,_,h1,h2,rfl⟩:=nR h;omega
theorem rK(s:ByteArray)(l h:Nat):bytes (s.extract l h)=((bytes s).drop l).take (h-l):=by
 simp[bytes,List.map_drop,List.map_take,Array.toList_extract,List.extract_eq_take_drop]
theorem H9(he:cG P E)(hs:SR E c){t:Nat}{xv v:V}{x:ο}{lo hi mx:Option V}{lo' hi' mx':Option ο}(h:slice E c.Z t xv lo hi mx=some v)(hv:VR c xv x)(h1:OR c lo lo')(h2:OR c hi hi')(h3:OR c mx mx') :
  ∃y,(Instr.sliceAt t x lo' hi' mx').run P c.w=.ok y c.w/\VR c v y:=by
 unfold slice at h;split at h
 ·cases h
 rename_i ti hti;obtain⟨d,hd,hkd⟩:=(he.ty t ti hti).kd;split at h
 ·
  rename_i s hk;rw[hk]at hkd;simp only[pI]at hkd;subst hkd;split at h
  ·cases h
  rename_i hmx;have hmx':mx=none:=by cases mx <;> simp_all
  subst hmx';cases h3;split at h
  ·cases h
  rename_i hh hbh;split at h
  ·cases h
  rename_i l hbl;cases h;obtain⟨b,rfl,rfl⟩:=hv.eX;rw[sG]at hbh;refine⟨.string (b.extract l hh),?_,by rw[<- rK];exact .inl (.str _)⟩;have:=iD (P:=P) (c:=c) (isSlice:=false) (len:=b.size) (cap:=b.size) h1 h2 .none (l:=l) (h:=hh) (m:=b.size) (by simp) (λ_=>.inl rfl) (λ_=>rfl) (.inr ⟨_,hbh⟩) (λe=>iP hbh e) ⟨_,hbl⟩ (λe=>iP hbl e) c.w;simp[Instr.sliceAt,ξ hd,Instr.slice,this]
 ·
  rename_i e hk;rw[hk]at hkd;simp only[pI]at hkd;subst hkd;split at h
  case h_2=>cases h
  rename_i i m hei hbm hnm;split at h
  case h_2=>cases h
  rename_i hh hbh;split at h
  case h_2=>cases h
  rename_i l hbl;cases h;rw[hv.iF];have e1:m=0:=by have:=nC hbm (OF 0);omega
  subst e1;have e2:hh=0:=by have:=nC hbh (OF 0);omega
  subst e2;have e3:l=0:=by have:=nC hbl (OF 0);omega
  subst e3
  have:=iD (P:=P) (c:=c) (isSlice:=true) (len:=0) (cap:=0) h1 h2 h3 (l:=0) (h:=0) (m:=0) hnm (λd=>by cases mx with
   |none=>exact .inl rfl
   |some v=>exact .inr (by obtain⟨k,i,rfl,g1,g2,g3⟩:=nR hbm;simp[bound];omega)) (λ_=>rfl) (.inr ⟨_,hbh⟩) (λ_=>rfl) ⟨_,hbl⟩ (λ_=>rfl) c.w
  refine⟨.slice none 0 0,?_,.inl .aG⟩;simp[Instr.sliceAt,ξ hd,Instr.slice,this,(he.ty e i hei).size]
 ·
  rename_i e g xs full hk;rw[hk]at hkd;simp only[pI]at hkd;subst hkd;split at h
  case h_2=>cases h
  rename_i i hei hnm;split at h
  ·cases h
  rename_i hsz;simp only[gu,qc]at hsz;split at h
  ·cases h
  rename_i m hbm;split at h
  ·cases h
  rename_i hh hbh;split at h
  ·cases h
  rename_i l hbl;cases h;obtain⟨blk,off,sp,cap,sz,rfl,hi',hc,hf,hr⟩:=hv.nZ;have hr:=hr.resize hsz;have hml:=nC hbm (OF _)
  have hhm:hh<=m:=by
   cases hi with
   |none=>cases mx with
    |none=>have:=qM hbm;have:=qM hbh;omega
    |some v=>simp at hnm
   |some u=>exact Eh hbh
  have hlh:=nC hbl (gv _);have hhx:hh<=xs.length:=by omega
  have hmx:∀v,mx=some v->hh<=m:=λv e=>hhm
  obtain⟨m',hm',hm1,hm2⟩:∃m',(mx=none->m'=cap)/\(∀v,mx=some v->m'=m)/\m<=m':=by
   cases mx with
   |none=>exact⟨cap,λ_=>rfl,λv e=>(nomatch e),by omega⟩
   |some v=>exact⟨m,λe=>(nomatch e),λ_ _=>rfl,OF _⟩
  have:=iD (P:=P) (c:=c) (isSlice:=true) (len:=xs.length) (cap:=cap) h1 h2 h3 (l:=l) (h:=hh) (m:=m') hnm (λd=>by
   cases mx with
   |none=>exact .inl rfl
   |some v=>exact .inr (by rw[hm1 v rfl];exact Eg hbm hc)) hm' (by
    cases hi with
    |none=>exact .inl rfl
    |some u=>exact .inr ⟨0,Eg hbh hm2⟩) (λe=>iP hbh e) ⟨_,hbl⟩ (λe=>iP hbl e) c.w
  have hm0:cap=0->m'=0:=λe0=>by
   cases mx with
   |none=>rw[hm' rfl,e0]
   |some v=>rw[hm1 v rfl];omega
  rcases hi' with⟨rfl,hi'⟩ | ⟨rfl,rfl⟩
  case inr=>
   have h0:=hm0 rfl;subst h0;obtain rfl:hh=0:=by omega
   obtain rfl:l=0:=by omega
   refine⟨.slice (some ⟨blk,off,sp⟩) 0 0,?_,.inl ?_⟩
   ·have this:Sem.run P (Instr.sliceBounds true 0 0 lo' hi' mx') c.w=Result.ok (0,0,0) c.w:=this;simp[Instr.sliceAt,ξ hd,Instr.slice,this,(he.ty e i hei).size]
   ·simp only[ez,qg,jq];exact .emp _ _ _
  refine⟨.slice (if m'=l then some ⟨blk,off,none⟩ else some ⟨blk,off+l*i.size,none⟩) (hh-l) (m'-l),?_,?_⟩
  ·by_cases hq:m'=l <;> simp[Instr.sliceAt,ξ hd,Instr.slice,this,(he.ty e i hei).size,hq,i6]
  ·have hlen:((xs.drop l).take (hh-l)).length=hh-l:=by simp;omega
   have hfull:DO mx m hh full xs.length=true->m'-l=hh-l:=by
    unfold DO;cases mx with
    |none=>simp only[ak,gp];rintro⟨e1,e2⟩;have:=hf e1;have:=hm' rfl;omega
    |some v=>simp only[gp];intro e1;have:=hm1 v rfl;omega
   by_cases hq:m'=l
   ·rw[az hq];have h0:hh-l=0:=by omega
    refine .inl (.bV g _ _ blk off (hh-l) (m'-l) i.size hi' hlen.symm (by omega) hfull ?_);rw[h0];simp;exact .nil
   ·rw[an hq];exact .inl (.bV g _ _ blk (off+l*i.size) (hh-l) (m'-l) i.size hi' hlen.symm (by omega) hfull ((hr.drop l).take _))
 ·
  rename_i e b off len cap hk;rw[hk]at hkd;simp only[pI]at hkd;subst hkd;split at h
  case h_2=>cases h
  rename_i i u cs ex hei hob hnm;split at h
  ·cases h
  rename_i hsz;have hpos:0<i.size:=Nat.pos_of_ne_zero hsz;obtain⟨cap',rfl,hb,hl,hk1,hk2⟩:=hv.mR;obtain⟨arr,a1,a2,⟨i',a3,a3'⟩,a4,a5,a6,a7⟩:=(hs.obj b _ hob).jC;split at h
  ·cases h
  rename_i hue;simp only[gu,qc,gp]at hue;subst hue;have hii:i'=i:=by rw[hei]at a3;exact(dh a3).symm
  subst hii
  have hroom:∀k,cap=none->k<=(cs.length-off) / i'.size->k<=cap':=by
   intro k e hk;have:=hk2 e;rw[a3']at this;have h1:=(Nat.le_div_iff_mul_le hpos).1 hk;by_cases hoc:off<=cs.length
   ·have:k*i'.size<=cap'*i'.size:=by omega
    exact Nat.le_of_mul_le_mul_right this hpos
   ·have:cs.length-off=0:=by omega
    rw[this]at h1
    have:k=0:=by
     rcases Nat.mul_eq_zero.1 (Nat.le_zero.1 h1) with h | h
     ·exact h
     ·omega
    omega
  have htop:∀k,k<=yW cs.length off i'.size cap->k<=cap':=by
   intro k hk;unfold yW at hk;cases cap with
   |none=>exact hroom k rfl hk
   |some q=>
    have:=hk1 q rfl;simp only at hk;split at hk <;> omega
  have addr:∀l,(Addr.add ⟨c.blk b,off,none⟩ (l*i'.size))=⟨c.blk b,off+l*i'.size,none⟩:=λl=>i6 _ _ _;split at h
  ·
   rename_i vm hmx;split at h
   ·cases h
   rename_i m hbm;split at h
   ·cases h
   rename_i hh hbh;split at h
   ·cases h
   rename_i l hbl;have hmc:m<=cap':=htop m (nC hbm (gv _));have hhm:=nC hbh (gv _);have hlh:=nC hbl (gv _)
   have:=iD (P:=P) (c:=c) (isSlice:=true) (len:=len) (cap:=cap') h1 h2 h3 (l:=l) (h:=hh) (m:=m) hnm (λd=>.inr (BW hbm hmc)) (λe=>by cases e) (by
     cases hi with
     |none=>simp at hnm
     |some u=>exact .inr ⟨_,hbh⟩) (λe=>by subst e;simp at hnm) ⟨_,hbl⟩ (λe=>iP hbl e) c.w
   split at h
   ·rename_i hml;cases h;refine⟨.slice (some ⟨c.blk b,off,none⟩) 0 0,?_,.sl _ _ _ _ _ hb (OF 0) (λk e=>by injection e) (λe=>by cases e)⟩;have e1:hh-l=0:=by omega
    simp[Instr.sliceAt,ξ hd,Instr.slice,this,(he.ty u i' hei).size,hml,e1]
   ·rename_i hml;cases h;refine⟨.slice (some ⟨c.blk b,off+l*i'.size,none⟩) (hh-l) (m-l),?_,.sl _ _ _ _ _ hb (by omega) (λk e=>by injection e) (λe=>by cases e)⟩;simp[Instr.sliceAt,ξ hd,Instr.slice,this,(he.ty u i' hei).size,hml,addr]
  ·
   rename_i hmx;cases h3;split at h
   ·cases h
   rename_i hh hbh;split at h
   ·cases h
   rename_i l hbl
   have hhc:hh<=cap':=by
    cases hi with
    |none=>have:=qM hbh;omega
    |some u=>exact htop hh (Eh hbh)
   have hlh:=nC hbl (gv _)
   have:=iD (P:=P) (c:=c) (isSlice:=true) (len:=len) (cap:=cap') h1 h2 .none (l:=l) (h:=hh) (m:=cap') (by simp) (λd=>.inl rfl) (λ_=>rfl) (by
     cases hi with
     |none=>exact .inl rfl
     |some u=>exact .inr ⟨0,BW hbh hhc⟩) (λe=>iP hbh e) ⟨_,hbl⟩ (λe=>iP hbl e) c.w
   have run:∀y,y=Value.slice (if cap'=l then some ⟨c.blk b,off,none⟩ else some ⟨c.blk b,off+l*i'.size,none⟩) (hh-l) (cap'-l)->(Instr.sliceAt t (.slice (some ⟨c.blk b,off,none⟩) len cap') lo' hi' none).run P c.w=.ok y c.w:=by
    rintro y rfl;simp only[Instr.sliceAt,υ,ξ hd,ν,Instr.slice,this,(he.ty u i' hei).size,ψ];by_cases hq:cap'=l
    ·rw[az hq,az hq]
    ·rw[an hq,an hq,ck,addr]
   split at h
   ·rename_i k;have hkc:=hk1 k rfl;split at h
    ·rename_i hkl;cases h;refine⟨_,run _ rfl,?_⟩;rw[az (by omega),show hh-l=0 by omega,show cap'-l=0 by omega];exact .sl _ _ _ _ _ hb (OF 0) (λk e=>by injection e) (λe=>by cases e)
    ·rename_i hkl;cases h;refine⟨_,run _ rfl,?_⟩;rw[an (by omega)];exact .sl _ _ _ _ _ hb (by omega) (λk e=>by injection e;omega) (λe=>by cases e)
   ·have htot:=hk2 rfl;rw[a3']at htot;split at h
    ·rename_i hlt;cases h
     have hlc:l<cap':=by
      apply Nat.lt_of_not_le;intro hge;have:cap'*i'.size<=l*i'.size:=gk _ hge;omega
     refine⟨_,run _ rfl,?_⟩;rw[an (by omega)];refine .sl _ _ _ _ _ hb (by omega) (λk e=>by cases e) (λ_=>?_);rw[a3',<- htot,Nat.sub_mul];have:l*i'.size<=cap'*i'.size:=gk _ (by omega);omega
    ·rename_i hlt;split at h
     ·rename_i hex;cases h;have:=a5 hex
      have hlc:cap'<=l:=by
       apply oz;intro hge;have:l*i'.size<cap'*i'.size:=Nat.mul_lt_mul_of_pos_right hge hpos;omega
      refine⟨_,run _ rfl,?_⟩;rw[az (by omega),show hh-l=0 by omega,show cap'-l=0 by omega];exact .sl _ _ _ _ _ hb (OF 0) (λk e=>by injection e) (λe=>by cases e)
     ·split at h
      ·rename_i hl0;subst hl0;cases h;refine⟨_,run _ rfl,?_⟩;have:(if cap'=0 then some (⟨c.blk b,off,none⟩:Addr) else some ⟨c.blk b,off+0*i'.size,none⟩)=some ⟨c.blk b,off,none⟩:=by simp
       rw[this];exact .sl _ _ _ _ _ hb (by omega) (λk e=>by cases e) (λ_=>by rw[a3',qg];exact htot)
      ·cases h
 ·cases h
theorem F9(a b:ByteArray):(a==b)=seq (bytes a) (bytes b):=by rw[AH,beq_toListBytes]
theorem sL.Qy{es:List (V × V)}{l:List ad}{g:Bool}(h:sL c.w (sub g c.bE) es l):jE c es l:=by
 induction es generalizing l with
 |nil=>cases h;exact .nil
 |cons e es ih=>cases h with | cons k v es e l hk hv hr=>exact .cons k v es e l (hk.mono (wC c g)) (hv.mono (wC c g)).vr (ih hr)
theorem jE.len{es:List (V × V)}{l:List ad}(h:jE c es l):es.length=l.length:=by
 induction h with
 |nil=>rfl
 |cons k v es e l hk hv hr ih=>simp[ih]
def vZ(eq:V->V->Option Bool)(k:V):List (V × V)->Nat->Option (Option Nat)
 | [],_=>some none
 |(k',_)::r,i=>match eq k k' with
  |some true=>some (some i)
  |some false=>vZ eq k r (i+1)
  |none=>none
theorem wU{eq:V->V->Option Bool}{k:V}:∀{es:List (V × V)}{i j:Nat},vZ eq k es i=some (some j)->i<=j/\j<i+es.length
 | [],_,_,h=>by simp[vZ]at h
 |(k',v)::es,i,j,h=>by
  simp only[vZ]at h;split at h
  ·injection h with h;cases h;simp
  ·have:=wU h;simp only[IT];omega
  ·cases h
theorem Dn{eq:V->V->Option Bool}{k:V}:∀{es:List (V × V)}{r:Option V} (i:Nat),jA eq k es=some r->∃p,vZ eq k es i=some p/\r=p.bind λj=>(es[j-i]?).map (·.2)
 | [],r,i,h=>by simp only[jA]at h;cases h;exact⟨none,rfl,rfl⟩
 |(k',v)::es,r,i,h=>by
  simp only[jA]at h;simp only[vZ];split at h
  ·rename_i hb;cases h;simp only[hb];exact⟨some i,rfl,by simp⟩
  ·rename_i hb;obtain⟨p,h1,h2⟩:=Dn (i+1) h;simp only[hb];refine⟨p,h1,?_⟩;cases p with
   |none=>exact h2
   |some j=>
    have:=(wU h1).1;rw[h2];simp only[gh];rw[show j-i=(j-(i+1))+1 by omega];simp
  ·cases h
theorem Fx{eq:V->V->Option Bool}{k v:V}:∀{es es':List (V × V)} (i:Nat),kX eq k v es=some es'->∃p,vZ eq k es i=some p/\es'=(match p with | none=>es++[(k,v)] | some j=>es.set (j-i) (k,v))/\∀j,p=some j->∃u,es[j-i]?=some u/\eq k u.1=some true
 | [],es',i,h=>by simp only[kX]at h;cases h;exact⟨none,rfl,rfl,λj e=>by cases e⟩
 |(k',v')::es,es',i,h=>by
  simp only[kX]at h;simp only[vZ];split at h
  ·rename_i hb;cases h;simp only[hb];exact⟨some i,rfl,by simp,λj e=>by cases e;exact⟨_,by simp;rfl,hb⟩⟩
  ·rename_i hb;split at h
   ·rename_i r hr;cases h;obtain⟨p,h1,h2,h3⟩:=Fx (i+1) hr;simp only[hb];refine⟨p,h1,?_,?_⟩
    ·cases p with
     |none=>simp[h2]
     |some j=>
      have:=(wU h1).1;rw[h2];simp only;rw[show j-i=(j-(i+1))+1 by omega];simp
    ·intro j e;subst e;have:=(wU h1).1;obtain⟨u,g1,g2⟩:=h3 j rfl;refine⟨u,?_,g2⟩;rw[show j-i=(j-(i+1))+1 by omega];simpa using g1
   ·cases h
  ·cases h
theorem Gd{eq:V->V->Option Bool}{k:V}:∀{es:List (V × V)}{i:Nat},vZ eq k es i=some none->∀e∈es,eq k e.1=some false
 | [],_,_,e,he=>by cases he
 |(k',v)::es,i,h,e,he=>by
  simp only[vZ]at h;split at h
  ·cases h
  ·rename_i hb;rcases IN.1 he with rfl | he
   ·exact hb
   ·exact Gd h e he
  ·cases h
theorem Gc{eq:V->V->Option Bool}{k:V}:∀{es:List (V × V)}{i j:Nat},vZ eq k es i=some (some j)->∃e,es[j-i]?=some e/\eq k e.1=some true
 | [],_,_,h=>by simp[vZ]at h
 |(k',v)::es,i,j,h=>by
  simp only[vZ]at h;split at h
  ·rename_i hb;injection h with h;cases h;exact⟨_,by simp;rfl,hb⟩
  ·obtain⟨e,h1,h2⟩:=Gc h;have:=(wU h).1;refine⟨e,?_,h2⟩;rw[show j-i=(j-(i+1))+1 by omega];simpa using h1
  ·cases h
theorem OP{eq:V->V->Option Bool}{k:V}{e:V × V}{es:List (V × V)}{i:Nat}{p:Option Nat}(h:vZ eq k (e::es) i=some p):∃b,eq k e.1=some b:=by
 simp only[vZ]at h;split at h
 ·rename_i hb;exact⟨_,hb⟩
 ·rename_i hb;exact⟨_,hb⟩
 ·cases h
theorem tS{d:TypeDesc}{kx:ο}:∀{l:List ad} (i:Nat),(∀m∈l,Instr.sameNow d kx m.key=some false)->Instr.findNow d kx l i=some none
 | [],_,_=>rfl
 |m::l,i,h=>by
  simp only[Instr.findNow,h m (No ..),tS (i+1) λm hm=>h m (ae _ hm)]
theorem tR{d:TypeDesc}{kx:ο}:∀{l:List ad} (i:Nat) {m:ad},(∀m∈l,∃b,Instr.sameNow d kx m.key=some b/\(b=true ↔ m.key=kx))->(l.map (·.key)).Nodup->m∈l->m.key=kx ->
  ∃j,l[j]?=some m/\Instr.findNow d kx l i=some (some (i+j,m.val))
 | [],_,_,_,_,hm,_=>by cases hm
 |m'::l,i,m,h,hn,hm,hk=>by
  obtain⟨b,h1,h2⟩:=h m' (No ..);simp only[bj,dw]at hn;by_cases e:m'.key=kx
  ·have:m=m':=by
    rcases IN.1 hm with rfl | hm
    ·rfl
    ·exact absurd (cv.2 ⟨m,hm,by rw[hk,e]⟩) hn.1
   subst this;refine⟨0,rfl,?_⟩;have:=h2.2 e;subst this;simp only[Instr.findNow,h1,l6]
  ·have hb:b=false:=by cases b with | false=>rfl | true=>exact absurd (h2.1 rfl) e
   subst hb
   have hm':m∈l:=by
    rcases IN.1 hm with rfl | hm
    ·exact absurd hk e
    ·exact hm
   obtain⟨j,g1,g2⟩:=tR (i+1) (λm hm=>h m (ae _ hm)) hn.2 hm' hk;refine⟨j+1,by simpa using g1,?_⟩;simp only[Instr.findNow,h1,g2];rw[show i+1+j=i+(j+1) by omega]
theorem uJ{P:ar}{kt:Nat}{kx:ο}{w:Γ}:∀{l:List ad} (i:Nat),(∀m∈l,(Op.equal kt kx m.key).run P w=.ok false w)->(Instr.findAsking kt kx l i).run P w=.ok none w
 | [],_,_=>rfl
 |m::l,i,h=>by
  simp only[Instr.findAsking,υ,h m (No ..),ν,ai,b9,uJ (i+1) λm hm=>h m (ae _ hm)]
theorem uI{P:ar}{kt:Nat}{kx:ο}{w:Γ}:∀{l:List ad} (i:Nat) {m:ad},(∀m∈l,∃b,(Op.equal kt kx m.key).run P w=.ok b w/\(b=true ↔ m.key=kx))->(l.map (·.key)).Nodup->m∈l->m.key=kx ->
  ∃j,l[j]?=some m/\(Instr.findAsking kt kx l i).run P w=.ok (some (i+j,m.val)) w
 | [],_,_,_,_,hm,_=>by cases hm
 |m'::l,i,m,h,hn,hm,hk=>by
  obtain⟨b,h1,h2⟩:=h m' (No ..);simp only[bj,dw]at hn;by_cases e:m'.key=kx
  ·have:m=m':=by
    rcases IN.1 hm with rfl | hm
    ·rfl
    ·exact absurd (cv.2 ⟨m,hm,by rw[hk,e]⟩) hn.1
   subst this;refine⟨0,rfl,?_⟩;have:=h2.2 e;subst this;simp[Instr.findAsking,h1]
  ·have hb:b=false:=by cases b with | false=>rfl | true=>exact absurd (h2.1 rfl) e
   subst hb
   have hm':m∈l:=by
    rcases IN.1 hm with rfl | hm
    ·exact absurd hk e
    ·exact hm
   obtain⟨j,g1,g2⟩:=uI (i+1) (λm hm=>h m (ae _ hm)) hn.2 hm' hk;refine⟨j+1,by simpa using g1,?_⟩;simp only[Instr.findAsking,υ,h1,ν,ai,b9,g2];rw[show i+1+j=i+(j+1) by omega]
theorem jE.get{es:List (V × V)}{l:List ad}(h:jE c es l){n:Nat}{e:V × V}(he:es[n]?=some e):∃m,l[n]?=some m/\sM c.w c.bE e.1 m.key/\VR c e.2 m.val:=by
 induction h generalizing n with
 |nil=>simp at he
 |cons k v es m l hk hv hr ih=>
  cases n with
  |zero=>simp at he;subst he;exact⟨m,rfl,hk,hv⟩
  |succ n=>simpa using ih (by simpa using he)
theorem jE.set{es:List (V × V)}{l:List ad}(h:jE c es l){k v:V}{m:ad}(hk:sM c.w c.bE k m.key)(hv:VR c v m.val)(n:Nat):jE c (es.set n (k,v)) (l.set n m):=by
 induction h generalizing n with
 |nil=>simp;exact .nil
 |cons k' v' es m' l hk' hv' hr ih=>
  cases n with
  |zero=>simp;exact .cons _ _ _ _ _ hk hv hr
  |succ n=>simp;exact .cons _ _ _ _ _ hk' hv' (ih n)
theorem jE.snoc{es:List (V × V)}{l:List ad}(h:jE c es l){k v:V}{m:ad}(hk:sM c.w c.bE k m.key)(hv:VR c v m.val):jE c (es++[(k,v)]) (l++[m]):=by
 induction h with
 |nil=>exact .cons _ _ _ _ _ hk hv .nil
 |cons k' v' es m' l hk' hv' hr ih=>exact .cons _ _ _ _ _ hk' hv' ih
theorem Sc.irs{sh:List Kd}{as:List V}{xs:List ο}{w:Γ}{I:Bool->Nat->Prop}(h:Sc sh as xs):Ci w I as xs:=by
 induction h with
 |nil=>exact .nil
 |bool b sh vs xs h ih=>exact .cons _ _ _ _ (.bool _) ih
 |int k n sh vs xs h ih=>exact .cons _ _ _ _ (.int _ _) ih
 |str s sh vs xs h ih=>exact .cons _ _ _ _ (.str _) ih
theorem oB{a b:ByteArray}:(a==b)=true ↔ a=b:=by
 rw[F9,seq_eq,af];exact⟨bytes_inj,λh=>by rw[h]⟩
theorem Sc.same{sh:List Kd}{as:List V}{xs:List ο}(h:Sc sh as xs)(n:Nat):∀q∈xs.zip xs,Instr.sameBits n q.1 q.2=true:=by
 induction h with
 |nil=>intro q hq;simp at hq
 |bool b sh vs xs h ih=>
  intro q hq;simp only[List.zip_cons_cons,IN]at hq;rcases hq with rfl | hq
  ·cases n <;> simp[Instr.sameBits]
  ·exact ih q hq
 |int k m sh vs xs h ih=>
  intro q hq;simp only[List.zip_cons_cons,IN]at hq;rcases hq with rfl | hq
  ·cases n <;> simp[Instr.sameBits]
  ·exact ih q hq
 |str s sh vs xs h ih=>
  intro q hq;simp only[List.zip_cons_cons,IN]at hq;rcases hq with rfl | hq
  ·cases n <;> simp[Instr.sameBits,oB]
  ·exact ih q hq
theorem Aj{kt:Nat}(hd:P.underlying kt=some .string)(em:Bool)(n:Nat)(b:ByteArray)(w:Γ):(fp em (n+1) kt (.string b)).run P w=.ok () w:=by simp[fp,ξ hd]
theorem Ak{kt:Nat}{k0:fz}(hd:P.underlying kt=some (.int k0))(em:Bool)(n:Nat)(k:fz)(b:Int)(w:Γ):(fp em (n+1) kt (.int k b)).run P w=.ok () w:=by simp[fp,ξ hd]
theorem jE.mem{es:List (V × V)}{l:List ad}(h:jE c es l){m:ad}(hm:m∈l):∃e∈es,sM c.w c.bE e.1 m.key/\VR c e.2 m.val:=by
 induction h with
 |nil=>cases hm
 |cons k v es m' l hk hv hr ih=>
  rcases IN.1 hm with rfl | hm
  ·exact⟨_,No ..,hk,hv⟩
  ·obtain⟨e,h1,h2⟩:=ih hm;exact⟨e,ae _ h1,h2⟩
theorem A2{eq:V->V->Option Bool}{k:V}{kx:ο}(hA:∀u y,sM c.w c.bE u y->∀b,eq k u=some b->eU y=eU kx/\(b=true ↔ y=kx))
  {es:List (V × V)}{l l':List ad}{p:Option Nat}(hm:jE c es l')(hp:l'.Perm l)(hsh:∀x∈l,∀y∈l,eU x.key=eU y.key)(h:vZ eq k es 0=some p) :
  (∀m∈l,eU m.key=eU kx)/\(p=none->∀m∈l,m.key≠kx)/\∀j,p=some j->∃m,l'[j]?=some m/\m∈l/\m.key=kx:=by
 refine⟨?_,?_,?_⟩
 ·cases hm with
  |nil=>
   intro m hm;have:=hp.mem_iff.2 hm;cases this
  |cons k' v es e l'' hk hv hr=>
   obtain⟨b,hb⟩:=OP h;have h0:=(hA _ _ hk _ hb).1;intro m hm;rw[<- h0];exact hsh m hm e (hp.mem_iff.1 (No ..))
 ·rintro rfl m hml e;obtain⟨x,hx,h1,_⟩:=hm.mem (hp.mem_iff.2 hml);have:=(hA _ _ h1 _ (Gd h x hx)).2.2 e;cases this
 ·rintro j rfl;obtain⟨x,hx,h1⟩:=Gc h;simp only[qg]at hx;obtain⟨m,hm1,hm2,_⟩:=hm.get hx;exact⟨m,hm1,hp.mem_iff.1 (ag hm1),(hA _ _ hm2 _ h1).2.1 rfl⟩
theorem G2{y:ο}(h:eZ y=1):∃b,y=.bool b:=by
 cases y <;> simp only[eZ]at h <;> first | exact⟨_,rfl⟩ | (cases h;done) | (split at h <;> cases h)
theorem BL{y:ο}(h:eZ y=20):∃b,y=.string b:=by
 cases y <;> simp only[eZ]at h <;> first | exact⟨_,rfl⟩ | (cases h;done) | (split at h <;> cases h)
theorem BM{y:ο}{k:fz}{n:Int}(h:eZ y=eZ (.int k n)):∃m,y=.int k m:=by
 cases y with
 |int k' m=>
  refine⟨m,?_⟩;have:k'=k:=by cases k <;> cases k' <;> first | rfl | (simp[eZ]at h)
  rw[this]
 |_=>cases k <;> simp[eZ]at h
theorem DC(y:ο):eZ y<99:=by
 cases y <;> simp only[eZ] <;> first | omega | (split <;> omega)
theorem DB{y:ο}{n:Nat}(h:eU y=[n])(hn:n<99):eZ y=n:=by
 unfold eU at h;split at h
 ·injection h with h1;omega
 ·injection h with h1
theorem KG{y:ο}{xs:List ο}(h:eU y=eU (.agg xs.toArray)):∃ys:List ο,y=.agg ys.toArray/\ys.map eZ=xs.map eZ:=by
 unfold eU at h;split at h
 ·rename_i a;refine⟨a.toList,by simp,?_⟩;injection h with _ h
 ·rename_i v hv;injection h with h1;have:=DC y;omega
theorem Sc.total{sh:List Kd}{as:List V}{xs:List ο}(h:Sc sh as xs):∀{ys:List ο},ys.map eZ=xs.map eZ->∃bs,Sc sh bs ys:=by
 induction h with
 |nil=>intro ys hy;simp at hy;subst hy;exact⟨[],.nil⟩
 |bool b sh vs xs h ih=>
  intro ys hy;cases ys with
  |nil=>simp at hy
  |cons y ys=>
   simp only[bj,pq]at hy;obtain⟨b',rfl⟩:=G2 (y:=y) (by rw[hy.1];rfl);obtain⟨bs,hb⟩:=ih hy.2;exact⟨_,.bool b' _ _ _ hb⟩
 |int k n sh vs xs h ih=>
  intro ys hy;cases ys with
  |nil=>simp at hy
  |cons y ys=>
   simp only[bj,pq]at hy;obtain⟨b',rfl⟩:=BM hy.1;obtain⟨bs,hb⟩:=ih hy.2;exact⟨_,.int k b' _ _ _ hb⟩
 |str s sh vs xs h ih=>
  intro ys hy;cases ys with
  |nil=>simp at hy
  |cons y ys=>
   simp only[bj,pq]at hy;obtain⟨b',rfl⟩:=BL (y:=y) (by rw[hy.1];rfl);obtain⟨bs,hb⟩:=ih hy.2;exact⟨_,.str b' _ _ _ hb⟩
theorem Sc.eqs{sh:List Kd}{as bs:List V}{xs ys:List ο}(h1:Sc sh as xs)(h2:Sc sh bs ys):∃b,Ax.eqs sh as bs=some b/\(b=true ↔ ys=xs):=by
 induction h1 generalizing bs ys with
 |nil=>cases h2;exact⟨true,rfl,by simp⟩
 |bool b sh vs xs h1 ih=>
  cases h2 with | bool b' _ vs' xs' h2=>
  obtain⟨q,hq,hi⟩:=ih h2;refine⟨(b==b'&&q),by simp only[Ax.eqs,hq],?_⟩;simp only[ak,gp,hi,pq,Value.bool.injEq];constructor
  ·rintro⟨rfl,rfl⟩;exact⟨rfl,rfl⟩
  ·rintro⟨rfl,rfl⟩;exact⟨rfl,rfl⟩
 |int k n sh vs xs h1 ih=>
  cases h2 with | int _ n' _ vs' xs' h2=>
  obtain⟨q,hq,hi⟩:=ih h2;refine⟨(decide (n=n')&&q),by simp only[Ax.eqs,hq,aj,bf],?_⟩;simp only[ak,af,hi,pq,Value.int.injEq,true_and];constructor
  ·rintro⟨rfl,rfl⟩;exact⟨rfl,rfl⟩
  ·rintro⟨rfl,rfl⟩;exact⟨rfl,rfl⟩
 |str s sh vs xs h1 ih=>
  cases h2 with | str s' _ vs' xs' h2=>
  obtain⟨q,hq,hi⟩:=ih h2;refine⟨(seq (bytes s) (bytes s')&&q),by simp only[Ax.eqs,hq],?_⟩;simp only[ak,seq_eq,af,hi,pq,Value.string.injEq];constructor
  ·rintro⟨h,rfl⟩;exact⟨(bytes_inj h).symm,rfl⟩
  ·rintro⟨rfl,rfl⟩;exact⟨rfl,rfl⟩
theorem xJ(he:cG P E){kt:Nat}{k:V}{kx:ο}(hk:VR c k kx)(hok:eH E kt k=true){es:List (V × V)}{l l':List ad}{p:Option Nat}(hm:jE c es l')(hp:l'.Perm l)
  (hnd:(l.map (·.key)).Nodup)(hsh:∀x∈l,∀y∈l,eU x.key=eU y.key)(h:vZ (dG E kt) k es 0=some p) :
  ∃q,(Instr.findKey kt kx l).run P c.w=.ok q c.w/\(∀em,(fp em 10000 kt kx).run P c.w=.ok () c.w)/\sM c.w c.bE k kx/\Instr.sameBits 10000 kx kx=true/\(∀m∈l,eU m.key=eU kx) /\
   (p=none->q=none/\∀m∈l,m.key≠kx)/\∀j,p=some j->∃m j',l'[j]?=some m/\l[j']?=some m/\m.key=kx/\q=some (j',m.val):=by
 unfold eH at hok;split at hok
 ·
  rename_i _ _ _ s hty;obtain⟨d,hd,hkd⟩:=(he.ty kt _ hty).kd;simp only[pI]at hkd;subst hkd;obtain⟨b,rfl,rfl⟩:=hk.eX
  have hA:∀u y,sM c.w c.bE u y->∀b',dG E kt (.str (bytes b)) u=some b'->eU y=eU (.string b)/\(b'=true ↔ y=.string b):=by
   intro u y hu b' hb;unfold dG at hb;rw[hty]at hb;simp only at hb;split at hb
   ·rename_i a1 a2 h1;cases h1;obtain⟨b2,rfl,rfl⟩:=hu.vr.eX;injection hb with hb;refine⟨rfl,?_⟩;rw[<- hb,<- F9,oB];exact⟨λe=>by rw[e],λe=>by injection e with e;exact e.symm⟩
   ·cases hb
  obtain⟨hS,hN,hJ⟩:=A2 hA hm hp hsh h
  have hB:∀m∈l,∃b',Instr.sameNow .string (.string b) m.key=some b'/\(b'=true ↔ m.key=.string b):=by
   intro m hml;obtain⟨b2,e⟩:=BL (DB (n:=20) (hS m hml) (by omega));rw[e];exact⟨_,rfl,by rw[oB];exact⟨λe=>by rw[e],λe=>by injection e with e;exact e.symm⟩⟩
  have run:∀q,Instr.findNow .string (.string b) l 0=some q->(Instr.findKey kt (.string b) l).run P c.w=.ok q c.w:=by
   intro q hq;simp only[Instr.findKey,υ,ξ hd,ν,hq];rfl
  have hsb:Instr.sameBits 10000 (.string b) (.string b)=true:=by
   show Instr.sameBits (9999+1) _ _=true;simp[Instr.sameBits,oB]
  cases p with
  |none=>
   refine⟨none,run _ (tS 0 λm hml=>?_),λem=>Aj hd em 9999 b _,.one (.str _),hsb,hS,(λ_=>⟨rfl,hN rfl⟩),(λj e=>by cases e)⟩;obtain⟨b',h1,h2⟩:=hB m hml;cases b' with
   |false=>exact h1
   |true=>exact absurd (h2.1 rfl) (hN rfl m hml)
  |some j=>
   obtain⟨m,h1,h2,h3⟩:=hJ j rfl;obtain⟨j',g1,g2⟩:=tR 0 hB hnd h2 h3;refine⟨_,run _ g2,λem=>Aj hd em 9999 b _,.one (.str _),hsb,hS,(λe=>by cases e),λj2 e=>?_⟩;cases e;exact⟨m,j',h1,g1,h3,by rw[dc]⟩
 ·rename_i k0 _ _ _ k' n hty;obtain⟨d,hd,hkd⟩:=(he.ty kt _ hty).kd;simp only[pI]at hkd;subst hkd;have:=hk.eG;subst this
  have hA:∀u y,sM c.w c.bE u y->∀b',dG E kt (.int k' n) u=some b'->eU y=eU (.int k' n)/\(b'=true ↔ y=.int k' n):=by
   intro u y hu b' hb;unfold dG at hb;rw[hty]at hb;simp only at hb;split at hb
   ·rename_i k1 a1 k2 a2 h1;injection h1 with h1 h1';subst h1 h1';have:=hu.vr.eG;subst this;split at hb
    ·rename_i hkk;subst hkk;injection hb with hb;refine⟨by simp only[eU,eZ],?_⟩;rw[<- hb,af];exact⟨λe=>by rw[e],λe=>by injection e with _ e;exact e.symm⟩
    ·cases hb
   ·cases hb
  obtain⟨hS,hN,hJ⟩:=A2 hA hm hp hsh h
  have hB:∀m∈l,∃b',Instr.sameNow (.int k0) (.int k' n) m.key=some b'/\(b'=true ↔ m.key=.int k' n):=by
   intro m hml;obtain⟨n2,e⟩:=BM (DB (hS m hml) (DC _));rw[e];refine⟨(n==n2),by simp only[Instr.sameNow,bf],?_⟩;rw[gp];exact⟨λe=>by rw[e],λe=>by injection e with _ e;exact e.symm⟩
  have run:∀q,Instr.findNow (.int k0) (.int k' n) l 0=some q->(Instr.findKey kt (.int k' n) l).run P c.w=.ok q c.w:=by
   intro q hq;simp only[Instr.findKey,υ,ξ hd,ν,hq];rfl
  have hsb:Instr.sameBits 10000 (.int k' n) (.int k' n)=true:=by
   show Instr.sameBits (9999+1) _ _=true;simp[Instr.sameBits]
  cases p with
  |none=>
   refine⟨none,run _ (tS 0 λm hml=>?_),λem=>Ak hd em 9999 _ _ _,.one (.int _ _),hsb,hS,(λ_=>⟨rfl,hN rfl⟩),(λj e=>by cases e)⟩;obtain⟨b',h1,h2⟩:=hB m hml;cases b' with
   |false=>exact h1
   |true=>exact absurd (h2.1 rfl) (hN rfl m hml)
  |some j=>
   obtain⟨m,h1,h2,h3⟩:=hJ j rfl;obtain⟨j',g1,g2⟩:=tR 0 hB hnd h2 h3;refine⟨_,run _ g2,λem=>Ak hd em 9999 _ _ _,.one (.int _ _),hsb,hS,(λe=>by cases e),λj2 e=>?_⟩;cases e;exact⟨m,j',h1,g1,h3,by rw[dc]⟩
 ·rename_i _ _ _ fs a hty;split at hok
  ·rename_i sh hsh';have ho:=he.eqs kt sh hsh';obtain⟨xs,rfl,hxs⟩:=hk.uB;obtain⟨b0,hb0⟩:=ji.1 hok;have hsc:=(KS hb0 hxs hxs).1;obtain⟨fa,hd⟩:=ho.jL;have inj:∀ys:List ο,(Value.agg ys.toArray=.agg xs.toArray ↔ ys=xs):=λys=>⟨λe=>by injection e with e;simpa using b8 Array.toList e,λe=>by rw[e]⟩
   have hA:∀u y,sM c.w c.bE u y->∀b',dG E kt (.agg a) u=some b'->eU y=eU (.agg xs.toArray)/\(b'=true ↔ y=.agg xs.toArray):=by
    intro u y hu b' hb;unfold dG at hb;rw[hty]at hb;simp only[hsh']at hb;split at hb
    ·rename_i sh' a1 a2 h0 h1;injection h1 with h1;injection h0 with h0;subst h1 h0;obtain⟨ys,rfl,hys⟩:=hu.vr.uB;have h2:=(KS hb hxs hys).2;obtain⟨b2,h3,h4⟩:=Sc.eqs hsc h2;rw[h3]at hb;cases hb;refine⟨?_,by rw[h4,inj]⟩
     have:∀{sh:List Kd}{as bs:List V}{xs ys:List ο},Sc sh as xs->Sc sh bs ys->ys.map eZ=xs.map eZ:=by
      intro sh as bs xs ys h1
      induction h1 generalizing bs ys with
      |nil=>intro h2;cases h2;rfl
      |bool b sh vs xs h1 ih=>intro h2;cases h2 with | bool b' _ vs' xs' h2=>simp[ih h2,eZ]
      |int k n sh vs xs h1 ih=>intro h2;cases h2 with | int _ n' _ vs' xs' h2=>simp only[bj,ih h2,eZ]
      |str s sh vs xs h1 ih=>intro h2;cases h2 with | str s' _ vs' xs' h2=>simp[ih h2,eZ]
     show 99::_=99::_;rw[this hsc h2]
    ·cases hb
   obtain⟨hS,hN,hJ⟩:=A2 hA hm hp hsh h
   have hB:∀m∈l,∃b',(Op.equal kt (.agg xs.toArray) m.key).run P c.w=.ok b' c.w/\(b'=true ↔ m.key=.agg xs.toArray):=by
    intro m hml;obtain⟨ys,e,hys⟩:=KG (hS m hml);obtain⟨bs,hbs⟩:=hsc.total hys;obtain⟨b2,h3,h4⟩:=Sc.eqs hsc hbs;rw[e];exact⟨b2,ho.eq _ _ _ _ _ _ h3 hsc hbs,by rw[h4,inj]⟩
   have run:∀q,(Instr.findAsking kt (.agg xs.toArray) l 0).run P c.w=.ok q c.w->l≠[]->(Instr.findKey kt (.agg xs.toArray) l).run P c.w=.ok q c.w:=by
    intro q hq hl;cases l with
    |nil=>exact absurd rfl hl
    |cons e l=>
     simp only[Instr.findKey,υ,ξ hd,ν,Instr.findNow,Instr.sameNow,hq]
   have hsb:Instr.sameBits 10000 (.agg xs.toArray) (.agg xs.toArray)=true:=by
    show Instr.sameBits (9999+1) _ _=true;simp only[Instr.sameBits,beq_self_eq_true,jd,eu];intro q hq;exact Sc.same hsc 9999 q hq
   cases p with
   |none=>
    refine⟨none,?_,λem=>ho.key _ _ _ _ hsc,.agg _ _ (Sc.irs hsc),hsb,hS,(λ_=>⟨rfl,hN rfl⟩),(λj e=>by cases e)⟩;by_cases hl:l=[]
    ·subst hl;simp[Instr.findKey,ξ hd,Instr.findNow]
    ·refine run _ (uJ 0 λm hml=>?_) hl;obtain⟨b',h1,h2⟩:=hB m hml;cases b' with
     |false=>exact h1
     |true=>exact absurd (h2.1 rfl) (hN rfl m hml)
   |some j=>
    obtain⟨m,h1,h2,h3⟩:=hJ j rfl;obtain⟨j',g1,g2⟩:=uI 0 hB hnd h2 h3;refine⟨_,run _ g2 (by rintro rfl;cases h2),λem=>ho.key _ _ _ _ hsc,.agg _ _ (Sc.irs hsc),hsb,hS,(λe=>by cases e),λj2 e=>?_⟩;cases e;exact⟨m,j',h1,g1,h3,by rw[dc]⟩
  ·cases hok
 ·cases hok
theorem EL(hs:SR E c){v:V}{x:ο}{es:List (V × V)}(hv:VR c v x)(h:entriesOf c.Z v=some es) :
  ∃l':List ad,jE c es l'/\((x=.map none/\l'=[])\/∃r en clock,x=.map (some r)/\c.w.heap[r]?=some (.map en clock)/\Ye en clock/\l'.Perm en.toList):=by
 unfold entriesOf at h;split at h
 ·cases h;exact⟨[],.nil,.inl ⟨hv.mX,rfl⟩⟩
 ·cases h;obtain⟨blk,en,cl,l,rfl,hi,hh,ho,hp,hm⟩:=hv.tN;exact⟨l,hm.Qy,.inr ⟨blk,en,cl,rfl,hh,ho,hp⟩⟩
 ·rename_i b;split at h
  ·rename_i es' hob;cases h;obtain⟨rfl,hb⟩:=hv.yC;obtain⟨en,cl,h1,ho,l,hp,h2⟩:=hs.obj b _ hob;exact⟨l,h2,.inr ⟨_,en,cl,rfl,h1,ho,hp⟩⟩
  ·cases h
 ·cases h
theorem run_getObj_map{w:Γ}{r:Nat}{l:Array ad}{cl:Nat}(h:w.heap[r]?=some (.map l cl)):(getObj r).run P w=.ok (.map l cl) w:=by
 simp[getObj,Sem.run,h]
theorem GY(he:cG P E)(hs:SR E c){t:Nat}{xv kv v:V}{x k:ο}{ok:Bool}(h:lookup E c.Z t xv kv ok=some v)(hx:VR c xv x)(hk:VR c kv k) :
  ∃y,(Instr.lookup t x k ok).run P c.w=.ok y c.w/\VR c v y:=by
 unfold lookup at h;split at h
 case h_2=>cases h
 rename_i kt e _ _ _ hty;split at h
 ·cases h
 rename_i hok;simp only[gu,qc]at hok;split at h
 ·cases h
 rename_i ei hei;split at h
 ·cases h
 rename_i es hes;split at h
 ·cases h
 rename_i r hr;injection h with h;obtain⟨d,hd,hkd⟩:=(he.ty t _ hty).kd;simp only[pI]at hkd;subst hkd;obtain⟨l',hm,hl⟩:=EL hs hx hes;obtain⟨p,hp,hrp⟩:=Dn 0 hr;obtain⟨z,hz,hz1,_⟩:=(he.ty e ei hei).zero
 obtain⟨l,hpm,hnd,hsh,hl⟩:∃l:List ad,l'.Perm l/\(l.map (·.key)).Nodup/\(∀x∈l,∀y∈l,eU x.key=eU y.key) /\
   ((x=.map none/\l=[])\/∃r clock,x=.map (some r)/\c.w.heap[r]?=some (.map l.toArray clock)):=by
  rcases hl with⟨rfl,rfl⟩ | ⟨r',en,cl,rfl,hh,ho,hpm⟩
  ·exact⟨[],.nil,by simp,by simp,.inl ⟨rfl,rfl⟩⟩
  ·exact⟨en.toList,hpm,ho.st.2.2,ho.shape,.inr ⟨r',cl,rfl,by simpa using hh⟩⟩
 obtain⟨q,hq,hck,_,_,_,hN,hJ⟩:=xJ he hk hok hm hpm hnd hsh hp
 have run:(Instr.lookup t x k ok).run P c.w=.ok (if ok=true then .tuple #[(q.map (·.2)).getD z,.bool q.isSome] else (q.map (·.2)).getD z) c.w:=by
  unfold Instr.lookup;simp only[υ,ξ hd,ν];rcases hl with⟨rfl,rfl⟩ | ⟨r',cl,rfl,hh⟩
  ·simp only[υ,ψ,ν,hck];rw[hq];cases q <;> cases ok <;> simp[hz]
  ·simp only[υ,run_getObj_map hh,ψ,ν,hck];rw[hq];cases q <;> cases ok <;> simp[hz]
 refine⟨_,run,?_⟩
 have fin:∀(u:V)(b:Bool),VR c u ((q.map (·.2)).getD z)->v=(if ok=true then V.fR [u,.bool b] else u)->b=q.isSome->VR c v (if ok=true then .tuple #[(q.map (·.2)).getD z,.bool q.isSome] else (q.map (·.2)).getD z):=by
  rintro u b hu rfl rfl;cases ok
  ·simpa using hu
  ·simpa using VR.fR [u,.bool q.isSome] [_,.bool q.isSome] (.cons _ _ _ _ hu (.cons _ _ _ _ (.inl (.bool _)) .nil))
 cases p with
 |none=>
  obtain⟨rfl,_⟩:=hN rfl;subst hrp;exact fin ei.zero false (hz1 _ _).vr h.symm rfl
 |some j=>
  obtain⟨m,j',g1,g2,g3,rfl⟩:=hJ j rfl;simp only[gh,qg]at hrp;have hlt:=(wU hp).2;have hlt':j<es.length:=by omega
  obtain⟨m',hm1,hm2,hm3⟩:=hm.get (n:=j) (e:=es[j]) (by simp[hlt']);have em:m'=m:=by rw[g1]at hm1;exact(dh hm1).symm
  subst em;have:r=some es[j].2:=by rw[hrp];simp[hlt']
  subst this;exact fin es[j].2 true (by simpa using hm3) h.symm rfl
theorem Qi{l l':List ad}(hp:l'.Perm l){j j':Nat}{m:ad}(h1:l'[j]?=some m)(h2:l[j']?=some m)(m':ad):(l'.set j m').Perm (l.set j' m'):=by
 have part:∀{l:List ad}{j:Nat},l[j]?=some m->∃a b,l=a++m::b/\l.set j m'=a++m'::b:=by
  intro l
  induction l with
  |nil=>intro j h;simp at h
  |cons x l ih=>
   intro j h;cases j with
   |zero=>simp at h;subst h;exact⟨[],l,rfl,rfl⟩
   |succ j=>
    obtain⟨a,b,e1,e2⟩:=ih (j:=j) (by simpa using h);exact⟨x::a,b,by rw[e1];rfl,by rw[nt,e2];rfl⟩
 obtain⟨a,b,rfl,e2⟩:=part h1;obtain⟨a',b',rfl,e2'⟩:=part h2;rw[e2,e2']
 have k:(a++b).Perm (a'++b'):=by
  have:=jt.symm.trans (hp.trans jt);exact(List.perm_cons m).1 this
 exact jt.trans ((List.Perm.cons m' k).trans jt.symm)
theorem uH(he:cG P E)(hs:SR E c){t:Nat}{xv kv v:V}{x k y:ο}{σ':Sg}(h:mapUpdate E c.Z t xv kv v=some σ')(hx:VR c xv x)(hk:VR c kv k)(hv:VR c v y) :
  ∃c',(Instr.mapUpdate t x k y).run P c.w=.ok () c'.w/\c'.Z=σ'/\Ext c c'/\SR E c':=by
 unfold mapUpdate at h;split at h
 case h_2=>cases h
 rename_i kt e _ _ _ b hty;split at h
 ·cases h
 rename_i hok;simp only[fl,gu,ql,qc]at hok;split at h
 case h_2=>cases h
 rename_i es hob;cases hmp:kX (dG E kt) kv v es with
 |none=>rw[hmp]at h;cases h
 |some es'=>
 rw[hmp]at h;cases h;obtain⟨d,hd,hkd⟩:=(he.ty t _ hty).kd;simp only[pI]at hkd;subst hkd;obtain⟨rfl,hb⟩:=hx.yC;obtain⟨en,cl,h1,ho,l',hpm,h2⟩:=hs.obj b _ hob;have hlv:live c.Z b:=⟨_,hob,rfl⟩;obtain⟨p,hp,hes',hsm⟩:=Fx 0 hmp;obtain⟨q,hq,hck,hki,hsb,hS,hN,hJ⟩:=xJ he hk hok.1 h2 hpm ho.st.2.2 ho.shape hp
 have hput:∀(en':Array ad)(cl':Nat)(l2:List ad),Ye en' cl'->l2.Perm en'.toList->jE c es' l2->∃c',(setObj (c.blk b) (.map en' cl')).run P c.w=.ok () c'.w/\c'.Z=c.Z.set b (.map es')/\Ext c c'/\SR E c':=by
  intro en' cl' l2 ho' hp' hm;have hext:=Cx.mU hlv (.map en' cl') (.map es');refine⟨c.put b (.map en' cl') (.map es'),?_,rfl,hext,Cx.uZ hs hlv _ _ ⟨en',cl',?_,ho',l2,hp',hm.mono hext⟩⟩
  ·simp[setObj,Sem.run,h1,Cx.put]
  ·have:=jI h1;simp[Cx.put,this]
 unfold Instr.mapUpdate;simp only[υ,ξ hd,ν,run_getObj_map h1,hck,hq];cases p with
 |none=>
  obtain⟨rfl,hne⟩:=hN rfl;simp only;refine hput _ _ (l'++[{ key:=k,val:=y,born:=cl }]) ⟨MapKept.stamped_push ho.st hne,?_⟩ ?_ (by simpa [hes']using h2.snoc (m:={ key:=k,val:=y,born:=cl }) hki hv)
  ·have hx:∀z∈(en.push { key:=k,val:=y,born:=cl }).toList,eU z.key=eU k:=by
    intro z hz;simp only[Array.toList_push,cq,cj]at hz;rcases hz with hz | rfl
    ·exact hS z hz
    ·rfl
   intro z hz z' hz';rw[hx z hz,hx z' hz']
  ·rw[Array.toList_push];exact hpm.append_right _
 |some j=>
  obtain⟨m,j',g1,g2,g3,rfl⟩:=hJ j rfl;simp only[qg]at hes' hsm;obtain⟨u,hu1,hu2⟩:=hsm j rfl;obtain⟨m',hm1,hm2,hm3⟩:=h2.get hu1;have em:m'=m:=by rw[g1]at hm1;exact(dh hm1).symm
  subst em;have hm1':en[j']?=some m':=by simpa using g2
  have hlt:j'<en.size:=by
   rcases cr j' en.size with g | g
   ·exact g
   ·rw[Array.getElem?_eq_none g]at hm1';cases hm1'
  simp only[hm1',ck,ay,Instr.keyThatStays,g3,hsb,bf,ψ,υ,ν]
  have e:(en.modify j' λe=>{ e with key:=k,val:=y }).toList=en.toList.set j' { m' with key:=k,val:=y }:=by
   apply jw;intro n;by_cases hn:j'=n
   ·subst hn;have:en[j']=m':=by rw[gq hlt]at hm1';exact dh hm1'
    simp[hlt,this]
   ·simp[hn,List.getElem?_set_ne hn]
  refine hput _ _ (l'.set j { m' with key:=k,val:=y }) ⟨MapKept.stamped_modify ho.st j' _ (λ_ _=>rfl) (λx hx hj=>?_),?_⟩ ?_ ?_
  ·rw[hm1']at hj;rw[<- dh hj,g3]
  ·intro z hz z' hz';rw[e]at hz hz'
   have hx:∀z∈en.toList.set j' { m' with key:=k,val:=y },eU z.key=eU k:=by
    intro z hz;rcases List.mem_or_eq_of_mem_set hz with hz | rfl
    ·exact hS z hz
    ·rfl
   rw[hx z hz,hx z' hz']
  ·rw[e];exact Qi hpm g1 g2 _
  ·rw[hes'];exact h2.set (m:={ m' with key:=k,val:=y }) hki hv j
theorem Cc(he:cG P E){t:Nat}{xv iv v:V}{x i:ο}(h:indexAddr E t xv iv=some v)(hx:VR c xv x)(hi:VR c iv i) :
  ∃y,(Instr.indexAt t x i).run P c.w=.ok y c.w/\VR c v y:=by
 unfold indexAddr at h;split at h
 case h_2=>cases h
 rename_i k n;rw[hi.eG];split at h
 ·cases h
 rename_i hn;split at h
 ·rename_i g xs full;split at h
  case h_2=>cases h
  rename_i e _ _ _ hty;split at h
  case h_2=>cases h
  rename_i ei r hei hr;split at h
  case isFalse=>cases h
  rename_i hsz;cases h;obtain⟨d,hd,hkd⟩:=(he.ty t _ hty).kd;simp only[pI]at hkd;subst hkd;obtain⟨blk,off,sp,cap,sz,rfl,hi',hc,hf,hrow⟩:=hx.nZ;rcases hi' with⟨rfl,hi'⟩ | ⟨rfl,rfl⟩
  case inr=>cases hr
  obtain⟨h1,h2⟩:=hrow.get _ _ hr;have hlt:n.toNat<xs.length:=(AI.1 hr).1;have hsz':sz=ei.size:=by simp only[gp]at hsz;omega
  subst hsz';refine⟨.pointer (some ⟨blk,off+n.toNat*ei.size,none⟩),?_,.inl (.cR g r blk _ hi' h2)⟩;simp only[Instr.indexAt,υ,asIntOf,ψ,ν,ξ hd];rw[gf,az (by omega)];simp[(he.ty e ei hei).size,i6]
 ·rename_i b off len cap;split at h
  case h_2=>cases h
  rename_i e _ _ _ hty;split at h
  case h_2=>cases h
  rename_i ei hei;split at h
  case isFalse=>cases h
  rename_i hlt;cases h;obtain⟨d,hd,hkd⟩:=(he.ty t _ hty).kd;simp only[pI]at hkd;subst hkd;obtain⟨cap',rfl,hb,_⟩:=hx.mR;refine⟨.pointer (some ⟨c.blk b,off+n.toNat*ei.size,none⟩),?_,.ref _ _ hb⟩;simp only[Instr.indexAt,υ,asIntOf,ψ,ν,ξ hd];rw[gf,az (by omega)];simp[(he.ty e ei hei).size,i6]
 ·cases h
theorem I4(he:cG P E){t:Nat}{xv iv v:V}{x i:ο}(h:index E t xv iv=some v)(hx:VR c xv x)(hi:VR c iv i) :
  ∃y,(Instr.index t x i).run P c.w=.ok y c.w/\VR c v y:=by
 unfold index at h;split at h
 case h_2=>cases h
 rename_i s k n hty;split at h
 ·cases h
 rename_i hn;split at h
 case h_2=>cases h
 rename_i q hq;cases h;rw[hi.eG];obtain⟨b,rfl,rfl⟩:=hx.eX;obtain⟨d,hd,hkd⟩:=(he.ty t _ hty).kd;simp only[pI]at hkd;subst hkd;have hlt:n.toNat<b.size:=by rw[<- sG];exact(AI.1 hq).1
 have hb:b[n.toNat]?=some b[n.toNat]:=ByteArray.getElem?_lt' b _ hlt
 have hv:q=(b[n.toNat]).toNat:=by
  have hq':(b.data.toList.map c7)[n.toNat]?=some q:=hq;rw[jm,fq]at hq';have hlt':n.toNat<b.data.size:=hlt;rw[gq hlt']at hq';simp only[ck,j7]at hq';rw[<- hq'];rfl
 refine⟨.int .u8 (b[n.toNat]).toNat,?_,by rw[hv];exact .inl (.int _ _)⟩;have h0:0<=n:=by omega
 simp[Instr.index,asIntOf,ξ hd,h0,hb]
theorem rY(he:cG P E){f:Field}{fi:Ty}(hfi:E.ty f.type=some fi)(hz:fi.size≠0)(b o:Nat)(w:Γ):(fieldPlace ⟨b,o,none⟩ f).run P w=.ok ⟨b,o+f.offset,none⟩ w:=by
 simp only[fieldPlace,υ,(he.ty _ _ hfi).size,ν];rw[gf,an hz,i6];rfl
theorem Ce(he:cG P E){t:Nat}{xv v:V}{x:ο}{f:Nat}(h:fieldAddr E t xv f=some v)(hx:VR c xv x) :
  ∃y,(Instr.fieldAt t x f).run P c.w=.ok y c.w/\VR c v y:=by
 unfold fieldAddr at h;split at h
 case h_2=>cases h
 rename_i fs _ _ _ hty;split at h
 case h_2=>cases h
 rename_i off ft hf;split at h
 case h_2=>cases h
 rename_i fi hfi;split at h
 ·cases h
 rename_i hz;obtain⟨d,hd,hkd⟩:=(he.ty t _ hty).kd;obtain⟨a,rfl,hfs⟩:=hkd
 obtain⟨fld,hfld,hfo⟩:∃fld,a[f]?=some fld/\(fld.offset,fld.type)=(off,ft):=by
  rw[<- hfs,jm,fq]at hf;cases hq:a[f]? with
  |none=>rw[hq]at hf;cases hf
  |some fld=>rw[hq]at hf;exact⟨fld,rfl,dh hf⟩
 injection hfo with h1 h2;subst h1 h2;split at h
 ·rename_i b o;cases h;obtain⟨rfl,hb⟩:=hx.iV;refine⟨.pointer (some ⟨c.blk b,o+fld.offset,none⟩),?_,.ref _ _ hb⟩;simp[Instr.fieldAt,ξ hd,hfld,ms,rY he hfi hz]
 ·rename_i g cs;cases h;obtain⟨blk,o,rfl,hi',hc⟩:=hx.z_;refine⟨.pointer (some ⟨blk,o+fld.offset,none⟩),?_,.inl (.cR g _ blk _ hi' (hc.drop _))⟩;simp[Instr.fieldAt,ξ hd,hfld,ms,rY he hfi hz]
 ·cases h
theorem Ku(he:cG P E){t:Nat}{cs:List V}{xs:List ο}{off:Nat}{v:V}(h:part E t cs off=some v)(hv:fH c cs xs):∃y,(Go.part t xs.toArray off).run P c.w=.ok y c.w/\VR c v y:=by
 unfold part at h;split at h
 case h_2=>cases h
 rename_i i hi;have ht:=he.ty t i hi;unfold Go.part;simp only[υ,ht.isAgg,ν];split at h
 ·rename_i hag;split at h
  ·rename_i hle;cases h;rw[gf,az hag];refine⟨.agg (xs.toArray.extract off (off+i.size)),by simp[ht.size],?_⟩;have:=VR.agg _ _ ((hv.drop off).take i.size);have e:((xs.drop off).take i.size).toArray=xs.toArray.extract off (off+i.size):=by simp[List.extract_eq_take_drop]
   rwa [e]at this
  ·cases h
 ·rename_i hag;rw[gf,an hag];obtain⟨x,hx,hr⟩:=hv.get off v h;refine⟨x,?_,hr⟩;have:xs.toArray[off]?=some x:=by simpa using hx
  rw[this];rfl
theorem Jb(he:cG P E){t:Nat}{xv v:V}{x:ο}{f:Nat}(h:field E t xv f=some v)(hx:VR c xv x):∃y,(Instr.field t x f).run P c.w=.ok y c.w/\VR c v y:=by
 unfold field at h;split at h
 case h_2=>cases h
 rename_i fs _ _ _ cs hty;split at h
 case h_2=>cases h
 rename_i off ft hf;obtain⟨d,hd,hkd⟩:=(he.ty t _ hty).kd;obtain⟨a,rfl,hfs⟩:=hkd;obtain⟨xs,rfl,hxs⟩:=hx.uB
 obtain⟨fld,hfld,hfo⟩:∃fld,a[f]?=some fld/\(fld.offset,fld.type)=(off,ft):=by
  rw[<- hfs,jm,fq]at hf;cases hq:a[f]? with
  |none=>rw[hq]at hf;cases hf
  |some fld=>rw[hq]at hf;exact⟨fld,rfl,dh hf⟩
 injection hfo with h1 h2;subst h1 h2;obtain⟨y,hy,hvy⟩:=Ku he h hxs;exact⟨y,by simp only[Instr.field,υ,ξ hd,ν,hfld,asAgg,ψ,hy],hvy⟩
theorem II(he:cG P E)(hs:SR E c){t ty:Nat}{ats:Array Nat}(hat:ats[0]?=some t){xv:V}{x:ο}{n:Nat}(h:lenOf E c.Z t xv=some n)(hx:VR c xv x) :
  (Builtin.len_ ats ty #[x]).run P c.w=.ok (.int .i64 n) c.w:=by
 unfold lenOf at h;split at h
 ·cases h
 rename_i i hi;obtain⟨d,hd,hkd⟩:=(he.ty t i hi).kd;have e0:(#[x]:Array ο)[0]?=some x:=rfl;unfold Builtin.len_;rw[hat,e0];split at h <;> rename_i hk <;> (try rw[hk]at hkd) <;> (try simp only[pI]at hkd) <;> (try subst hkd)
 ·cases h;obtain⟨b,rfl,rfl⟩:=hx.eX;simp[ξ hd,goInt,sG]
 ·cases h;rw[hx.iF];simp[ξ hd,goInt]
 ·cases h;obtain⟨_,_,_,_,_,rfl,_⟩:=hx.nZ;simp[ξ hd,goInt]
 ·cases h;obtain⟨_,rfl,_⟩:=hx.mR;simp[ξ hd,goInt]
 ·cases h;rw[hx.mX];simp[ξ hd,goInt]
 ·cases h;obtain⟨r,en,cl,l,rfl,_,hh,_,hp,hm⟩:=hx.tN;have:=hm.Qy.len;have h3:=hp.length_eq;simp only[jc]at h3;simp[ξ hd,goInt,run_getObj_map hh,this,h3]
 ·split at h
  ·rename_i es hob;cases h;obtain⟨rfl,hb⟩:=hx.yC;obtain⟨en,cl,h1,_,l,hp,h2⟩:=hs.obj _ _ hob;have:=h2.len;have h3:=hp.length_eq;simp only[jc]at h3;simp[ξ hd,goInt,run_getObj_map h1,this,h3]
  ·cases h
 ·cases h
theorem JY{op:UnOp}{v r:V}{x:ο}(h:unop op v=some r)(hv:VR c v x):∃y,(Op.unary op x).run P c.w=.ok y c.w/\VR c r y:=by
 unfold unop at h;split at h
 ·cases h;rw[hv.gO];exact⟨_,rfl,.inl (.bool _)⟩
 ·cases h;rw[hv.eG];exact⟨_,by simp only[Op.unary,Op.intArith,ψ];rfl,by rw[Bq];exact .inl (.int _ _)⟩
 ·cases h
theorem yA:∀{cs:List V}{xs:List ο}{l:List Nat},It cs=some l->fH c cs xs->∃ns:List UInt8,l=ns.map c7/\xs=ns.map λn=>Value.int .u8 n.toNat
 | [],xs,l,h,hv=>by
  simp only[It]at h;cases h;cases hv;exact⟨[],rfl,rfl⟩
 |v::cs,xs,l,h,hv=>by
  cases hv with | cons _ x _ xs hx hr=>
  unfold It at h;split at h
  ·rename_i heq;cases heq
  ·rename_i n r heq;injection heq with h1 h2;subst h1 h2;split at h
   ·rename_i hc;simp only[ak,af]at hc;split at h
    ·rename_i l' hl';cases h;obtain⟨ns,rfl,rfl⟩:=yA hl' hr;have hm:n.toNat % 256=n.toNat:=Nat.mod_eq_of_lt (by omega);refine⟨qk n.toNat::ns,by simp[hm],?_⟩;rw[hx.eG];simp only[bj,UInt8.toNat_ofNat',Nat.reducePow,hm];congr 2;omega
    ·cases h
   ·cases h
  ·cases h
theorem fold_push(ns:List UInt8):∀r:ByteArray,bytes ((ns.map λn=>(n.toNat:Int)).foldl (λr n=>r.push (qk n.toNat)) r)=bytes r++ns.map c7:=by
 induction ns with
 |nil=>intro r;simp
 |cons n ns ih=>
  intro r;simp only[bj,jh];rw[ih]
  have:bytes (r.push (qk ((n.toNat:Int)).toNat))=bytes r++[n.toNat]:=by
   simp[bytes,ByteArray.push]
  rw[this];simp
theorem oS(hs:SR E c){v:V}{x:ο}{cs:List V}{n:Nat}{l:List Nat}(hel:elems c.Z 1 v=some (cs,n))(hl:It cs=some l)(hv:VR c v x)(hx:∃a len cap,x=.slice (some a) len cap) :
  ∃y,(Conv.bytesToString x).run P c.w=.ok y c.w/\VR c (.str l) y:=by
 obtain⟨a,len,cap,rfl⟩:=hx;obtain⟨xs,hxs,hxl,hfc,hlo,_⟩:=mH (P:=P) hs hel hv;obtain⟨ns,rfl,rfl⟩:=yA hl hxs
 have hn:n=len:=by
  have:=hlo c.w;simp only[Builtin.lenOf,ψ]at this;injection this with this;exact this.symm
 subst hn
 have hload:(loadCells a n).run P c.w=.ok ((ns.map λn=>(n.toNat:Int)).map (Value.int .u8)).toArray c.w:=by
  have:=hfc c.w λ_ _=>rfl;simp only[Builtin.firstCells,pg]at this;rw[this];simp[Function.comp_def]
 refine⟨_,run_bytesToString c.w a n cap _ hload,?_⟩;have:=fold_push ns ByteArray.empty;rw[show bytes ByteArray.empty=[] from rfl,cz]at this;rw[<- this];exact .inl (.str _)
theorem EM(he:cG P E)(hs:SR E c){src dst:Nat}{v r:V}{x:ο}(h:convert E c.Z src dst v=some r)(hv:VR c v x) :
  ∃y,(Go.convert src dst x).run P c.w=.ok y c.w/\VR c r y:=by
 unfold convert at h;split at h
 case h_2=>cases h
 rename_i s d hsi hdi;obtain⟨sd,hsd,hskd⟩:=(he.ty src s hsi).kd;obtain⟨dd,hdd,hdkd⟩:=(he.ty dst d hdi).kd;split at h
 ·rename_i k k' n hk;rw[hk]at hdkd;simp only[pI]at hdkd;subst hdkd;cases h;rw[hv.eG];exact⟨_,by simp[Go.convert,ξ hsd,ξ hdd,Conv.intToInt];rfl,by rw[Bq];exact .inl (.int _ _)⟩
 ·rename_i l hk;rw[hk]at hdkd;simp only[pI]at hdkd;subst hdkd;cases h;obtain⟨b,rfl,rfl⟩:=hv.eX;exact⟨.string b,by simp[Go.convert,ξ hsd,ξ hdd],.inl (.str _)⟩
 ·rename_i e b hsk hk;rw[hk]at hdkd;simp only[pI]at hdkd;subst hdkd;rw[hsk]at hskd;simp only[pI]at hskd;subst hskd;split at h
  case h_2=>cases h
  rename_i u cs i hob hei;split at h
  case isFalse=>cases h
  rename_i hc;obtain⟨rfl,hl,h0⟩:=hc;cases h;obtain⟨rfl,hb⟩:=hv.iV;obtain⟨arr,g1,g2,g3,g4,g5,g6,g7⟩:=(hs.obj b _ hob).jC;obtain⟨inf,hinf,hisz,_⟩:=(he.ty u i hei).info;have:=g5 rfl;exact⟨_,Lib.run_to_unsafe c.w (cells:=arr.size) (e:=u) _ hsd hdd hinf (by omega) (by simp[World.shape?,g1]) (by show 0<arr.size;omega),hv⟩
 ·rename_i e b hsk hk;rw[hk]at hdkd;simp only[pI]at hdkd;subst hdkd;rw[hsk]at hskd;simp only[pI]at hskd;subst hskd;split at h
  case h_2=>cases h
  rename_i u cs i hob hei;split at h
  case isFalse=>cases h
  rename_i hc;obtain⟨rfl,hl,h0,hlie⟩:=hc;cases h;obtain⟨rfl,hb⟩:=hv.iV;obtain⟨arr,g1,g2,g3,g4,g5,g6,g7⟩:=(hs.obj b _ hob).jC;obtain⟨inf,hinf,hisz,_⟩:=(he.ty u i hei).info;have:=g5 rfl
  have hdiv:arr.size / P.cellsOf u=1:=by
   have:P.cellsOf u=i.size:=by simp[Program.cellsOf,hinf,hisz]
   rw[this,show arr.size=i.size by omega];exact Nat.div_self h0
  exact⟨_,Lib.run_from_unsafe c.w (cells:=arr.size) (e:=u) _ hsd hdd hinf (by simp[World.shape?,g1]) (by rw[hdiv];exact he.Ey u hlie),hv⟩
 ·rename_i e hsk hk;rw[hk]at hdkd;simp only[pI]at hdkd;subst hdkd;rw[hsk]at hskd;simp only[pI]at hskd;subst hskd;split at h
  case h_2=>cases h
  rename_i ei hei;split at h
  case h_2=>cases h
  rename_i hek;cases h;obtain⟨ed,hed,hekd⟩:=(he.ty e ei hei).kd;rw[hek]at hekd;simp only[pI]at hekd;subst hekd;rw[hv.iF];refine⟨.string .empty,?_,.inl (.str .empty)⟩;simp[Go.convert,ξ hsd,ξ hdd,ξ hed,Conv.bytesToString]
 ·rename_i e b off len cap hsk hk;rw[hk]at hdkd;simp only[pI]at hdkd;subst hdkd;rw[hsk]at hskd;simp only[pI]at hskd;subst hskd;split at h
  case h_2=>cases h
  rename_i ei hei;split at h
  case h_2=>cases h
  rename_i hek;split at h
  case isFalse=>cases h
  split at h
  case h_2=>cases h
  rename_i cs n hel;split at h
  case h_2=>cases h
  rename_i l hl;cases h;obtain⟨ed,hed,hekd⟩:=(he.ty e ei hei).kd;rw[hek]at hekd;simp only[pI]at hekd;subst hekd;obtain⟨cap',hxe,_⟩:=hv.mR;obtain⟨y,hy,hr⟩:=oS (P:=P) hs hel hl hv ⟨_,_,_,hxe⟩;subst hxe;exact⟨y,by simp only[Go.convert,υ,ξ hsd,ξ hdd,ν,ξ hed];exact hy,hr⟩
 ·rename_i e g xs f hsk hk;rw[hk]at hdkd;simp only[pI]at hdkd;subst hdkd;rw[hsk]at hskd;simp only[pI]at hskd;subst hskd;split at h
  case h_2=>cases h
  rename_i ei hei;split at h
  case h_2=>cases h
  rename_i hek;split at h
  case isFalse=>cases h
  split at h
  case h_2=>cases h
  rename_i cs n hel;split at h
  case h_2=>cases h
  rename_i l hl;cases h;obtain⟨ed,hed,hekd⟩:=(he.ty e ei hei).kd;rw[hek]at hekd;simp only[pI]at hekd;subst hekd;obtain⟨_,_,_,_,_,hxe,_⟩:=hv.nZ;obtain⟨y,hy,hr⟩:=oS (P:=P) hs hel hl hv ⟨_,_,_,hxe⟩;subst hxe;exact⟨y,by simp only[Go.convert,υ,ξ hsd,ξ hdd,ν,ξ hed];exact hy,hr⟩
 ·cases h
theorem FD{k:fz}:∀{l:List V}{a:Int}{xs:List ο}{n:Int},iN true k a l=some n->fH c l xs->(xs.foldlM Builtin.max2 (.int k a)).run P c.w=.ok (.int k n) c.w
 | [],a,xs,n,h,hv=>by simp only[iN]at h;cases h;cases hv;rfl
 |v::l,a,xs,n,h,hv=>by
  cases hv with | cons _ x _ xs hx hr=>
  unfold iN at h;split at h
  ·rename_i heq;cases heq
  ·rename_i k' b r _ heq;injection heq with h1 h2;subst h1 h2;rw[hx.eG];simp only[List.foldlM_cons,υ,Builtin.max2,ψ,ν];exact FD (by simpa using h) hr
  ·cases h
theorem Fy{k:fz}:∀{l:List V}{a:Int}{xs:List ο}{n:Int},iN false k a l=some n->fH c l xs->(xs.foldlM Builtin.min2 (.int k a)).run P c.w=.ok (.int k n) c.w
 | [],a,xs,n,h,hv=>by simp only[iN]at h;cases h;cases hv;rfl
 |v::l,a,xs,n,h,hv=>by
  cases hv with | cons _ x _ xs hx hr=>
  unfold iN at h;split at h
  ·rename_i heq;cases heq
  ·rename_i k' b r _ heq;injection heq with h1 h2;subst h1 h2;rw[hx.eG];simp only[List.foldlM_cons,υ,Builtin.min2,ψ,ν];exact Fy (by simpa using h) hr
  ·cases h
theorem Ov{v:V}{n:Nat}(h:RJ v=some n){x:ο}(hx:VR c v x):∃base len,x=.slice base len n:=by
 unfold RJ at h;split at h
 ·injection h with h;subst h;exact⟨none,0,hx.iF⟩
 ·rename_i b off len k;injection h with h;subst h;obtain⟨cap',rfl,_,_,hk,_⟩:=hx.mR;rw[hk k rfl];exact⟨_,_,rfl⟩
 ·rename_i g xs;injection h with h;subst h;obtain⟨blk,off,sp,cap,sz,rfl,_,_,hf,_⟩:=hx.nZ;rw[hf rfl];exact⟨_,_,rfl⟩
 ·cases h
theorem T3(hs:SR E c){w:Γ}(hsz:c.w.heap.size<=w.heap.size)(hk:∀k,k<c.w.heap.size->w.heap[k]?=c.w.heap[k]?)(h1:w.os=c.w.os)(h2:w.tape=c.w.tape)(h3:w.output=c.w.output) :
  Ext c { c with w:=w }/\SR E { c with w:=w }:=by
 have he:Ext c { c with w:=w }:=⟨hsz,λk hlt ho=>⟨hk k hlt,λ⟨b,hl,hb⟩=>ho ⟨b,hl,hb⟩⟩,OF _,λ_ _=>rfl,λ_ _=>rfl,λ_ _=>rfl,rfl,h1,h2,h3⟩;refine⟨he,⟨hs.inj,λb o hb=>?_,hs.nT,λk hk=>ig (hs.jF k hk) hsz,qG he hs.gl⟩⟩;by_cases hl:live c.Z b
 ·exact(hs.obj b o hb).mono he (eC hl) (hk _ (hs.lt hl))
 ·cases o with
  |dead=>exact True.intro
  |_=>exact(hl ⟨_,hb,rfl⟩).elim
theorem yZ{w:Γ}{I:Bool->Nat->Prop}{blk:Nat}:∀(l:List Nat)(off:Nat),(∀(j:Nat) ch,l[j]?=some ch->w.cell? ⟨blk,off+j,none⟩=some (.int .u8 (ch:Int))) ->
  eK w I 1 (l.map λ(ch:Nat)=>[V.int .u8 (ch:Int)]) blk off
 | [],_,_=>.nil
 |a::l,off,h=>by
  refine .cons _ _ rfl (.cons _ _ _ (by simpa using h 0 a rfl) (.int _ _) .nil) (yZ l (off+1) λj ch hj=>?_);have:=h (j+1) ch (by simpa using hj)
  rwa [show off+(j+1)=off+1+j by omega]at this
theorem CR(he:cG P E)(hs:SR E c){s d:Nat}{a v:V}(h:CS E s d a=some v){x:ο}(hx:VR c a x):gP E c ((Go.convert s d x).run P c.w) v c.Z:=by
 unfold CS at h;split at h
 case h_2=>cases h
 rename_i l;split at h
 case h_2=>cases h
 rename_i _ _ _ e _ _ _ hts htd;split at h
 case h_2=>cases h
 rename_i bts zr hte;split at h
 case isFalse=>cases h
 rename_i hle;cases h;obtain⟨ds,hds,hks⟩:=(he.ty s _ hts).kd;obtain⟨dd,hdd,hkd⟩:=(he.ty d _ htd).kd;obtain⟨de,hde,hke⟩:=(he.ty e _ hte).kd;simp only[pI]at hks hkd hke;subst hks hkd hke;obtain⟨b,rfl,hb⟩:=hx.eX;have hsz:b.size=l.length:=by rw[<- hb];simp[bytes]
 generalize hcap:(Question.appendCap b.size 0 e).cut (c.w.tape c.w.drawn (.appendCap b.size 0 e))=cap;have hge:b.size<=cap:=by rw[<- hcap];simp[Question.cut]
 have hfo:(Question.appendCap b.size 0 e).forced=false:=rfl;have hrow:∃row:Array ο,row=(b.data.map λb=>Value.int .u8 b.toNat)++Array.replicate (cap-b.size) (.int .u8 0):=⟨_,rfl⟩;obtain⟨row,hrow⟩:=hrow;have hw2:∃w2:Γ,w2={ c.w with heap:=c.w.heap.push (.cells row e (row.size,row.size+1)),drawn:=c.w.drawn+1 }:=⟨_,rfl⟩;obtain⟨w2,hw2⟩:=hw2
 have hrun:(Go.convert s d (.string b)).run P c.w=.ok (.slice (some ⟨c.w.heap.size,0,none⟩) b.size cap) w2:=by
  have hsh:({ c.w with heap:=c.w.heap.push (.cells row e (0,0)),drawn:=c.w.drawn+1 }:Γ).shape? c.w.heap.size=some (e,row.size):=by
   simp[World.shape?]
  have hfz:({ c.w with heap:=c.w.heap.push (.cells row e (0,0)),drawn:=c.w.drawn+1 }:Γ).freeze ⟨c.w.heap.size,row.size,none⟩ 1=w2:=by
   rw[hw2];unfold World.freeze;rw[an (by decide)];congr 1;apply Array.ext_getElem?;intro k;simp only[Array.getElem?_modify];by_cases hk:c.w.heap.size=k
   ·subst hk;simp
   ·rw[an hk];simp only[Array.getElem?_push];rw[an (λe=>hk e.symm),an (λe=>hk e.symm)]
  simp only[Go.convert,υ,ξ hds,ξ hdd,ξ hde,ν,Conv.stringToBytes,run_choose,hfo,ai,b9,hcap,newRow,run_newObj,ψ,<- hrow,markStringish,run_shape,hsh,run_freeze,hfz]
 obtain⟨k1,k2⟩:=T3 hs (w:=w2) (by rw[hw2];simp) (λk hk=>by rw[hw2];simp[Array.getElem?_push,Nat.ne_of_lt hk]) (by rw[hw2]) (by rw[hw2]) (by rw[hw2]);refine⟨{ c with w:=w2 },_,hrun,rfl,k1,k2,.inl (.bV false _ false c.w.heap.size 0 b.size cap 1 ⟨by rw[hw2];simp,λho=>?_,λ_ ha=>?_⟩ (by simp[hsz]) hge (λh=>by cases h) (yZ l 0 λj ch hj=>?_))⟩
 ·have:=hs.vC (k:=c.w.heap.size) ho;omega
 ·have:=hs.jF _ ha;omega
 ·have hj':j<b.size:=by rw[hsz];exact(AI.1 hj).1
  have h1:(bytes b)[j]?=some ch:=by rw[hb];exact hj
  have h2:b.data[j]?=some (b.data[j]'hj'):=gq hj'
  have h3:(b.data[j]'hj').toNat=ch:=by
   simp[bytes,h2]at h1;exact h1
  rw[oA (arr:=row) (t:=e) (fr:=(row.size,row.size+1)) (by
   show w2.heap[c.w.heap.size]?=_;rw[hw2];simp)]
  rw[hrow,dc,Array.getElem?_append_left (by simpa using hj')];simp[h2,h3]
theorem xN(he:cG P E)(hs:SR E c){b:Builtin}{ats:Array Nat}{ty:Nat}{consts:Array Bool}{vs:List V}{xs:List ο}{r:V}{σ':Sg}(h:mi E c.Z b ats vs=some (r,σ'))(hv:fH c vs xs) :
  ∃(c':Cx) (y:ο),(Go.builtin b ats ty consts xs.toArray).run P c.w=.ok (.value y) c'.w/\c'.Z=σ'/\Ext c c'/\SR E c'/\VR c' r y:=by
 have lift:∀{m:Sem ο}{r:V}{σ':Sg},gP E c (m.run P c.w) r σ'->∃(c':Cx) (y:ο),(do pure (Next.value (<- m)):Sem Next).run P c.w=.ok (.value y) c'.w/\c'.Z=σ'/\Ext c c'/\SR E c'/\VR c' r y:=by
  rintro m r σ' ⟨c',y,h1,h2⟩;exact⟨c',y,by simp[h1],h2⟩
 unfold mi at h;split at h
 ·
  rename_i xv;cases hv with | cons _ x _ xs hx hr=>
  cases hr;split at h
  case h_2=>cases h
  rename_i t hat;split at h
  case h_2=>cases h
  rename_i n hn;injection h with h;injection h with h1 h2;subst h1 h2;exact lift (gP.same hs (II he hs hat hn hx) (.inl (.int _ _)))
 ·
  cases hv with | cons _ x _ xs hx hr=>
  cases hr with | cons _ y _ ys hy hr=>
  cases hr;exact lift (Hw he hs h hx hy)
 ·
  cases hv with | cons _ x _ xs hx hr=>
  cases hr;split at h
  case h_2=>cases h
  rename_i t hat;split at h
  case h_2=>cases h
  rename_i e _ _ _ n hty hcap;injection h with h;injection h with h1 h2;subst h1 h2;obtain⟨d,hd,hkd⟩:=(he.ty t _ hty).kd;simp only[pI]at hkd;subst hkd;obtain⟨base,len,rfl⟩:=Ov hcap hx;refine lift (m:=Builtin.cap_ ats ty _) (gP.same hs (x:=.int .i64 (n:Nat)) ?_ (.inl (.int _ _)));unfold Builtin.cap_;rw[hat];simp[ξ hd,goInt]
 ·
  split at h
  case h_2=>cases h
  rename_i t hat;split at h
  case h_2=>cases h
  rename_i e _ _ _ hty;split at h
  case isFalse=>cases h
  rename_i hsome;obtain⟨i,hei⟩:=ji.1 hsome;injection h with h;injection h with h1 h2;subst h1 h2;obtain⟨d,hd,hkd⟩:=(he.ty t _ hty).kd;simp only[pI]at hkd;subst hkd;cases hv with | cons _ x _ xs hx hr=>
  cases hr with | cons _ y _ ys hy hr=>
  cases hr;obtain⟨cap',rfl,hb,_⟩:=hx.mR;have:=hy.iF;subst this;refine lift (m:=Builtin.copy_ ats ty _) (gP.same hs (x:=.int .i64 0) ?_ (.inl (.int _ _)));unfold Builtin.copy_;rw[hat];simp[ξ hd,goInt,Builtin.lenOf,(he.ty e i hei).size,Builtin.firstCells,storeCells]
 ·
  rename_i k a l;split at h
  case h_2=>cases h
  rename_i n hn;injection h with h;injection h with h1 h2;subst h1 h2;cases hv with | cons _ x _ xs hx hr=>
  rw[hx.eG];exact lift (gP.same hs (by simp only[Builtin.max_];exact FD hn hr) (.inl (.int _ _)))
 ·
  rename_i k a l;split at h
  case h_2=>cases h
  rename_i n hn;injection h with h;injection h with h1 h2;subst h1 h2;cases hv with | cons _ x _ xs hx hr=>
  rw[hx.eG];exact lift (gP.same hs (by simp only[Builtin.min_];exact Fy hn hr) (.inl (.int _ _)))
 ·
  rename_i b off len cap;split at h
  case h_2=>cases h
  rename_i t hat;split at h
  case h_2=>cases h
  rename_i e _ _ _ hty;split at h
  case h_2=>cases h
  rename_i i u cs ex hei hob;cases hv with | cons _ x _ xs hx hr=>
  cases hr;obtain⟨d,hd,hkd⟩:=(he.ty t _ hty).kd;simp only[pI]at hkd;subst hkd;obtain⟨cap',rfl,hb,_⟩:=hx.mR;have e0:(#[Value.slice (some ⟨c.blk b,off,none⟩) len cap']:Array ο)[0]?=some (.slice (some ⟨c.blk b,off,none⟩) len cap'):=rfl;split at h
  ·rename_i hl0;subst hl0;injection h with h;injection h with h1 h2;subst h1 h2;refine lift (m:=Builtin.clear_ ats ty _) (gP.same hs (x:=.tuple #[]) ?_ (.fR [] [] .nil));unfold Builtin.clear_;rw[hat];simp[ξ hd]
  ·rename_i hl0;split at h
   case isFalse=>cases h
   rename_i hc;simp only[ak,gp,af]at hc;obtain⟨rfl,hle⟩:=hc;injection h with h;injection h with h1 h2;subst h1 h2;obtain⟨z,hz,hz1,hzs⟩:=(he.ty u i hei).zero;have hv0:VR c i.zero z:=(hz1 _ _).vr;obtain⟨c',p1,p2,p3,p4⟩:=AQ (P:=P) hs hob (off:=off) (zH hv0.cells len) (GO (hz1 c.w c.bE).lQ len) (by rw[P8,(he.ty u i hei).Yi];exact hle);refine lift (m:=Builtin.clear_ ats ty _) ⟨c',.tuple #[],?_,p2,p3,p4,.fR [] [] .nil⟩;unfold Builtin.clear_;rw[hat];obtain⟨n,rfl⟩:∃n,len=n+1:=⟨len-1,by omega⟩;simp only[cn,bh,υ,ξ hd,ν,hz,oU,p1,ψ]
 ·
  rename_i b off len cap;split at h
  ·cases h
  rename_i hl0;injection h with h;injection h with h1 h2;subst h1 h2;cases hv with | cons _ x _ xs hx hr=>
  cases hr;obtain⟨cap',rfl,hb,hle,_⟩:=hx.mR;exact lift (gP.same hs (Lib.run_unsafeSliceData_row _ _ _ _ _ _ (by omega)) (.ref _ _ hb))
 ·injection h with h;injection h with h1 h2;subst h1 h2;cases hv with | cons _ x _ xs hx hr=>
  cases hr;rw[hx.iF];exact lift (gP.same hs (Lib.run_unsafeSliceData_nil _ _ _ _ _) (.inl .fV))
 ·split at h
  case h_2=>cases h
  rename_i pt it hat;injection h with h;injection h with h1 h2;subst h1 h2;have hat':ats = #[pt,it]:=by apply pn;exact hat
  subst hat';cases hv with | cons _ x _ xs hx hr=>
  cases hr with | cons _ y _ ys hy hr=>
  cases hr;rw[hx.qB,hy.eG];exact lift (gP.same hs (Lib.run_unsafeString_none _ _ _ _ _) (.inl (.str .empty)))
 ·rename_i b n;split at h
  case h_2=>cases h
  rename_i pt it hat;have hat':ats = #[pt,it]:=by apply pn;exact hat
  subst hat';split at h
  case h_2=>cases h
  rename_i e _ _ _ hty;split at h
  case h_2=>cases h
  rename_i i u cs ex hei hob;split at h
  case isFalse=>cases h
  rename_i hc;obtain⟨hsz,rfl,hn0,hn1,hn2⟩:=hc;split at h
  case h_2=>cases h
  rename_i l hl;injection h with h;injection h with h1 h2;subst h1 h2;cases hv with | cons _ x _ xs hx hr=>
  cases hr with | cons _ y _ ys hy hr=>
  cases hr;obtain⟨rfl,hb⟩:=hx.iV;have:=hy.eG;subst this;obtain⟨d,hd,hkd⟩:=(he.ty pt _ hty).kd;simp only[pI]at hkd;subst hkd;obtain⟨arr,a1,a2,a3,a4,a5,a6,a7⟩:=(hs.obj b _ hob).jC;obtain⟨ns,rfl,hns⟩:=yA hl (a6.take n.toNat)
  have hlen:ns.length=n.toNat:=by
   have:=b8 List.length hns;simp at this;omega
  have hne:ns≠[]:=by intro e;rw[e]at hlen;simp at hlen;omega
  obtain⟨inf,hinf,hisz,_⟩:=(he.ty u i hei).info;have hcells:P.cellsOf u=1:=by simp[Program.cellsOf,hinf,hisz,hsz]
  have hsh:c.w.shape? (c.blk b)=some (u,arr.size):=by simp[World.shape?,a1]
  have hrun:=Lib.run_unsafeString_row (P:=P) (w:=c.w) pt it ty u hd hcells (c.blk b) arr.size hsh ns hne (by omega) (by omega) (λj q hj=>by
   have hj':j<n.toNat:=by rw[<- hlen];exact(AI.1 hj).1
   rw[i6,dc,oA a1];have h3:(List.map (λn=>Value.int IntKind.u8 ↑n.toNat) ns)[j]?=some (.int .u8 q.toNat):=by simp[hj]
   rw[<- hns]at h3;simp only[ik,hj',bf]at h3;have:j<cs.length:=by omega
   simp only[this,bf,fq]at h3;exact h3)
  have hnn:((ns.length:Nat):Int)=n:=by omega
  rw[hnn]at hrun;have hk:=c.vL b
  have hfr:∀k,k≠c.blk b->(c.w.freeze ⟨c.blk b,0,none⟩ ns.length).heap[k]?=c.w.heap[k]?:=by
   intro k hk;unfold World.freeze;split
   ·rfl
   ·simp[Array.getElem?_modify,Ne.symm hk]
  have hlv:live c.Z b:=⟨_,hob,rfl⟩
  have e2:Ext c { c with w:=c.w.freeze ⟨c.blk b,0,none⟩ ns.length,Z:=c.Z.set b .dead }:=by
   refine⟨by simp[World.freeze];split <;> simp,λk hk1 hk2=>⟨hfr k λe=>hk2 ⟨b,hlv,e.symm⟩,(hk.keep k hk1 hk2).2⟩,hk.len,hk.blk,hk.tot,hk.yP,rfl,?_,?_,?_⟩
   all_goals (unfold World.freeze;split <;> rfl)
  have hsize:(c.w.freeze ⟨c.blk b,0,none⟩ ns.length).heap.size=c.w.heap.size:=by
   unfold World.freeze;split <;> simp
  refine⟨{ c with w:=c.w.freeze ⟨c.blk b,0,none⟩ ns.length,Z:=c.Z.set b .dead },.string ⟨ns.toArray⟩,by simp[Go.builtin,hrun],rfl,e2,?_,?_⟩
  ·refine⟨λb1 b2 h1 h2 e=>hs.inj b1 b2 (gI h1).1 (gI h2).1 e,λb' o' hb'=>?_,λb' hl'=>hs.nT b' (gI hl').1,λk hk=>by rw[show ({ c with w:=c.w.freeze ⟨c.blk b,0,none⟩ ns.length,Z:=c.Z.set b .dead }:Cx).w.heap.size=c.w.heap.size from hsize];exact hs.jF k hk,qG e2 hs.gl⟩;by_cases hl':live (c.Z.set b .dead) b'
   ·have hne':=(gI hl').2;have hlc:=(gI hl').1;have hb2:c.Z[b']?=some o':=by rw[<- aa (λe=>hne' e.symm)];exact hb'
    exact(hs.obj b' o' hb2).mono e2 (eC hlc) (hfr _ λe=>hne' (hs.inj b' b hlc hlv e))
   ·cases o' with
    |dead=>exact True.intro
    |_=>exact(hl' ⟨_,hb',rfl⟩).elim
  ·have:bytes ⟨ns.toArray⟩=ns.map c7:=by simp[bytes]
   rw[<- this];exact .inl (.str _)
 ·cases h
theorem oJ{fr:Fr}{a:Act}(h:FR c fr a.tmps){o:Option χ}{v:Option V}(he:qK fr o=some v):OR c v (o.map a.eval):=by
 cases o with
 |none=>simp only[qK]at he;cases he;exact .none
 |some x=>
  simp only[qK]at he;cases hx:aS fr x with
  |none=>rw[hx]at he;cases he
  |some u=>rw[hx]at he;cases he;exact .some _ _ (aM h hx)
def Step(E:Env)(c:Cx)(r:Result Next)(v:V)(σ':Sg):Prop:=
 ∃(c':Cx) (x:ο),(r=.ok (.value x) c'.w\/(r=.ok .skip c'.w/\x=Go.undef))/\c'.Z=σ'/\Ext c c'/\SR E c'/\VR c' v x
theorem Step.of{m:Sem ο}{v:V}{σ':Sg}(h:gP E c (m.run P c.w) v σ'):Step E c ((do pure (Next.value (<- m)):Sem Next).run P c.w) v σ':=by
 obtain⟨c',y,h1,h2⟩:=h;exact⟨c',y,.inl (by simp[h1]),h2⟩
theorem Step.pure{v:V}{x:ο}(hs:SR E c)(hv:VR c v x):Step E c ((Pure.pure (Next.value x):Sem Next).run P c.w) v c.Z:=⟨c,x,.inl rfl,rfl,Ext.refl c,hs,hv⟩
theorem Step.same{m:Sem ο}{v:V}(hs:SR E c)(h:∃x,m.run P c.w=.ok x c.w/\VR c v x):Step E c ((do Pure.pure (Next.value (<- m)):Sem Next).run P c.w) v c.Z:=by
 obtain⟨x,h1,h2⟩:=h;exact Step.of (gP.same hs h1 h2)
theorem Step.unit{m:Sem Unit}{σ':Sg}(h:∃c',m.run P c.w=.ok () c'.w/\c'.Z=σ'/\Ext c c'/\SR E c'):Step E c ((do m;Pure.pure Next.skip:Sem Next).run P c.w) .undef σ':=by
 obtain⟨c',h1,h2,h3,h4⟩:=h;exact⟨c',Go.undef,.inr ⟨by simp[h1],rfl⟩,h2,h3,h4,.undef⟩
theorem EC(he:cG P E)(hs:SR E c){fr:Fr}{a:Act}(hf:FR c fr a.tmps){o:cd}{v:V}{σ':Sg}(h:aT E fr c.Z o.op=some (v,σ')) :
  Step E c ((execOp a.eval o).run P c.w) v σ':=by
 obtain⟨dst,op,type,pos,after,guard⟩:=o;simp only at h;unfold aT at h
 delta kH tD Iu rG fL iS kG jS eY oQ mW qA xG AV eE jT mV kI tA iK rF cB rE eB dZ cZ eN at h
 unfold execOp;split at h
 ·
  rename_i x;cases hx:aS fr x with
  |none=>rw[hx]at h;cases h
  |some u=>
   rw[hx]at h;injection h with h;injection h with h1 h2;subst h1 h2;exact Step.pure hs (aM hf hx)
 ·rename_i x;cases hx:aS fr x with
  |none=>rw[hx]at h;cases h
  |some u=>
   rw[hx]at h;injection h with h;injection h with h1 h2;subst h1 h2;exact Step.pure hs (aM hf hx)
 ·
  rename_i cc x y;split at h
  case h_2=>cases h
  rename_i t u w hc hx hy;injection h with h;injection h with h1 h2;subst h1 h2;have hcv:=(aM hf hc).gO;refine⟨c,if t=true then a.eval x else a.eval y,.inl ?_,rfl,Ext.refl c,hs,?_⟩
  ·simp only[hcv,asBool,υ,ψ,ν]
  ·cases t
   ·exact aM hf hy
   ·exact aM hf hx
 ·
  split at h
  case h_2=>cases h
  rename_i i hi;injection h with h;injection h with h1 h2;subst h1 h2;exact Step.of (Ju he hs hi)
 ·
  split at h
  case h_2=>cases h
  rename_i i u hi hx;split at h
  case isFalse=>cases h
  rename_i hc;simp only[ak]at hc;injection h with h;injection h with h1 h2;subst h1 h2;exact Step.of (Ox hs hi (aM hf hx) hc.2)
 ·
  split at h
  case h_2=>cases h
  rename_i i ps hi hps;split at h
  case h_2=>cases h
  rename_i fs hk;split at h
  ·cases h
  rename_i hall;split at h
  case h_2=>cases h
  rename_i cs hcs;injection h with h;injection h with h1 h2;subst h1 h2;simp only[gu,qc]at hall;refine Step.of (Jl he hs hi hk (qs:=_) ?_ hall hcs);simpa using pC hf hps
 ·
  split at h
  case h_2=>cases h
  rename_i e _ _ _ ps hi hps;split at h
  case h_2=>cases h
  rename_i i hei;split at h
  case isFalse=>cases h
  rename_i hle;split at h
  case h_2=>cases h
  rename_i cs hcs;injection h with h;injection h with h1 h2;subst h1 h2;refine Step.of (Bf he hs hi rfl hei (qs:=_) ?_ hle hcs);simpa using pC hf hps
 ·
  split at h
  case h_2=>cases h
  rename_i u hx;cases hl:loadAt E c.Z _ u with
  |none=>rw[hl]at h;cases h
  |some r=>
   rw[hl]at h;injection h with h;injection h with h1 h2;subst h1 h2;exact Step.same hs (Dw he hs hl (aM hf hx))
 ·
  split at h
  case h_2=>cases h
  rename_i u w hx hy;cases hl:storeAt E c.Z _ u w with
  |none=>rw[hl]at h;cases h
  |some r=>
   rw[hl]at h;injection h with h;injection h with h1 h2;subst h1 h2;exact Step.unit (HR he hs hl (aM hf hx) (aM hf hy))
 ·
  rename_i x;split at h
  ·cases h
  ·cases h
  ·cases h
  ·cases h
  ·cases h
  ·rename_i u n1 n2 n3 n4 hx;injection h with h;injection h with h1 h2;subst h1 h2;have hr:=aM hf hx;have key:∀y,VR c u y->Step E c ((Pure.pure (Next.value y):Sem Next).run P c.w) u c.Z:=λy hy=>Step.pure hs hy;dsimp only;generalize a.eval x=y at hr ⊢;cases hr with
   |inl h=>cases h with
    |fV=>exact(n1 rfl).elim
    |rT=>exact(n2 rfl).elim
    |rH=>exact(n3 rfl).elim
    |_=>exact key _ (.inl (by constructor <;> assumption))
   |undef=>exact(n4 rfl).elim
   |ref b off h=>exact key _ (.ref b off h)
   |sl b off len cap cap' h hl hk ht=>exact key _ (.sl b off len cap cap' h hl hk ht)
   |mp b h=>exact key _ (.mp b h)
   |fn f a b xs ys ha hb=>exact key _ (.fn f a b xs ys ha hb)
   |agg cs xs h=>exact key _ (.agg cs xs h)
   |fR cs xs h=>exact key _ (.fR cs xs h)
   |A8 t v x h=>exact key _ (.A8 t v x h)
 ·
  split at h
  case h_2=>cases h
  rename_i u w hx hy;split at h
  case h_2=>cases h
  rename_i r hb;injection h with h;injection h with h1 h2;subst h1 h2;exact Step.same hs (Oy he hb (aM hf hx) (aM hf hy))
 ·
  split at h
  case h_2=>cases h
  rename_i u hx;cases hl:unop _ u with
  |none=>rw[hl]at h;cases h
  |some r=>
   rw[hl]at h;injection h with h;injection h with h1 h2;subst h1 h2;exact Step.same hs (JY hl (aM hf hx))
 ·
  split at h
  case h_2=>cases h
  rename_i u hx;split at h
  ·rename_i v' hv';injection h with h;injection h with h1 h2;subst h1 h2;exact Step.of (CR he hs hv' (aM hf hx))
  cases hl:convert E c.Z _ _ u with
  |none=>rw[hl]at h;cases h
  |some r=>
   rw[hl]at h;injection h with h;injection h with h1 h2;subst h1 h2;exact Step.same hs (EM he hs hl (aM hf hx))
 ·
  split at h
  case h_4=>cases h
  case h_2=>
   rename_i t xo _ _ kt et _ _ _ g es hty hx;injection h with h;injection h with h1 h2;subst h1 h2;obtain⟨d,hd,hkd⟩:=(he.ty t _ hty).kd;simp only[pI]at hkd;subst hkd;obtain⟨m,en,cl,l,hxm,hi,hh,ho,hp,hm⟩:=(aM hf hx).tN;have hb:a.eval xo=.map (some m):=hxm
   have hnew:SR E (c.alloc (.mapIter (some m) cl #[] cl) (.tF es none) 0 0):=Cx.sI hs _ _ _ _ (.inr ⟨g,m,en,cl,#[],l,by
     show (c.w.heap.push _)[if c.Z.length=c.Z.length then _ else _]?=_;rw[az rfl];simp,((Cx.gJ hs _ _ _ _).wider g m hi).1,by rw[((Cx.gJ hs _ _ _ _).wider g m hi).2];exact hh,ho,by rw[my.2 (λe _=>by simp)];exact hp,hm.Qy.mono (Cx.gJ hs _ _ _ _),λe he=>by cases he⟩)
   have hrf:VR (c.alloc (.mapIter (some m) cl #[] cl) (.tF es none) 0 0) (.ref c.Z.length 0) (.pointer (some ⟨c.w.heap.size,0,none⟩)):=by
    have:=VR.ref (c:=c.alloc (.mapIter (some m) cl #[] cl) (.tF es none) 0 0) c.Z.length 0 (by simp[Cx.alloc])
    rwa [show (c.alloc (.mapIter (some m) cl #[] cl) (.tF es none) 0 0).blk c.Z.length=c.w.heap.size from az rfl]at this
   refine Step.of ⟨_,_,?_,rfl,Cx.gJ hs _ _ _ _,hnew,hrf⟩;rw[hb];simp only[Instr.range,υ,ξ hd,ν,run_getObj_map hh,ψ];rfl
  case h_3=>
   rename_i t xo _ _ kt et _ _ _ hty hx;injection h with h;injection h with h1 h2;subst h1 h2;obtain⟨d,hd,hkd⟩:=(he.ty t _ hty).kd;simp only[pI]at hkd;subst hkd;have hb:a.eval xo=.map none:=(aM hf hx).mX
   have hnew:SR E (c.alloc (.mapIter none 0 #[] 0) (.tF [] none) 0 0):=Cx.sI hs _ _ _ _ (.inl ⟨rfl,rfl,by
     show (c.w.heap.push _)[if c.Z.length=c.Z.length then _ else _]?=_;rw[az rfl];simp⟩)
   have hrf:VR (c.alloc (.mapIter none 0 #[] 0) (.tF [] none) 0 0) (.ref c.Z.length 0) (.pointer (some ⟨c.w.heap.size,0,none⟩)):=by
    have:=VR.ref (c:=c.alloc (.mapIter none 0 #[] 0) (.tF [] none) 0 0) c.Z.length 0 (by simp[Cx.alloc])
    rwa [show (c.alloc (.mapIter none 0 #[] 0) (.tF [] none) 0 0).blk c.Z.length=c.w.heap.size from az rfl]at this
   refine Step.of ⟨_,_,?_,rfl,Cx.gJ hs _ _ _ _,hnew,hrf⟩;rw[hb];simp only[Instr.range,υ,ξ hd,ν,ψ];rfl
  rename_i t xo _ _ _ _ _ s hty hx;injection h with h;injection h with h1 h2;subst h1 h2;obtain⟨d,hd,hkd⟩:=(he.ty t _ hty).kd;simp only[pI]at hkd;subst hkd;obtain⟨b,hb,hbs⟩:=(aM hf hx).eX
  have e0:(c.w.alloc (.stringIter b 0)).heap[c.w.heap.size]?=some (.stringIter b 0):=by
   show (c.w.heap.push _)[c.w.heap.size]?=_;simp
  have hnew:SR E (c.alloc (.stringIter b 0) (.JK s 0) 0 0):=Cx.sI hs _ _ _ _ ⟨b,hbs,by
   show (c.w.alloc (.stringIter b 0)).heap[if c.Z.length=c.Z.length then _ else _]?=_;rw[az rfl];exact e0⟩
  have hrf:VR (c.alloc (.stringIter b 0) (.JK s 0) 0 0) (.ref c.Z.length 0) (.pointer (some ⟨c.w.heap.size,0,none⟩)):=by
   have:=VR.ref (c:=c.alloc (.stringIter b 0) (.JK s 0) 0 0) c.Z.length 0 (by simp[Cx.alloc])
   rwa [show (c.alloc (.stringIter b 0) (.JK s 0) 0 0).blk c.Z.length=c.w.heap.size from az rfl]at this
  refine Step.of ⟨_,_,?_,rfl,Cx.gJ hs _ _ _ _,hnew,hrf⟩;rw[hb,run_range_string c.w t b hd];rfl
 ·
  split at h
  case h_2=>cases h
  rename_i xo b hx;split at h
  case h_2=>cases h
  rename_i s pos hob;obtain⟨hp,hblt⟩:=(aM hf hx).iV;obtain⟨bs,hbs,hheap⟩:=hs.obj b _ hob;have hlv:live c.Z b:=⟨_,hob,rfl⟩;split at h
  ·rename_i ch hch;have hch':(bs.data.toList.map c7)[pos]?=some ch:=by rw[show bs.data.toList.map c7=s from hbs];exact hch
   have hpos:pos<bs.size:=by
    have:=(AI.1 hch').1;simpa using this
   split at h
   case isFalse=>
    have h256:ch<256:=by
     obtain⟨u,-,hu⟩:=cv.1 (ag hch');have:=UInt8.toNat_lt u;omega
    rw[az h256]at h;injection h with h;injection h with h1 h2;subst h1 h2
    have hun:sP s=bs:=by
     subst hbs;unfold sP bytes;rw[js,show qk ∘ c7=id from funext λx=>UInt8.ofNat_toNat,List.map_id]
    rw[hun];refine Step.of ⟨c.put b (.stringIter bs (pos+(Utf8.decode bs pos).2)) (.JK s (pos+(Utf8.decode bs pos).2)),.tuple #[.bool true,.int .i64 pos,.int .i32 (Utf8.decode bs pos).1],?_,rfl,Cx.mU hlv _ _,Cx.uZ hs hlv _ _ ⟨bs,hbs,?_⟩,?_⟩
    ·rw[hp];simp only[Instr.next,getObj,setObj,υ,Sem.run,hheap,m5,hpos,bf];simp[goInt,Cx.put]
    ·have:=jI hheap;simp[Cx.put,this]
    ·exact .fR _ [_,_,_] (.cons _ _ _ _ (.inl (.bool _)) (.cons _ _ _ _ (.inl (.int _ _)) (.cons _ _ _ _ (.inl (.int _ _)) .nil)))
   rename_i hlt;injection h with h;injection h with h1 h2;subst h1 h2
   have hc:(bs[pos]'hpos).toNat=ch:=by
    have h3:bs.data[pos]?=some (bs[pos]'hpos):=gq hpos;simpa [h3]using hch'
   refine Step.of ⟨c.put b (.stringIter bs (pos+1)) (.JK s (pos+1)),.tuple #[.bool true,.int .i64 pos,.int .i32 ch],?_,rfl,Cx.mU hlv _ _,Cx.uZ hs hlv _ _ ⟨bs,hbs,?_⟩,?_⟩
   ·rw[hp];have hd:=decode_ascii bs pos hpos (by omega);simp only[Instr.next,getObj,setObj,υ,Sem.run,hheap,m5,hpos,bf,hd,hc];simp[goInt,Cx.put]
   ·have:=jI hheap;simp[Cx.put,this]
   ·exact .fR _ [_,_,_] (.cons _ _ _ _ (.inl (.bool _)) (.cons _ _ _ _ (.inl (.int _ _)) (.cons _ _ _ _ (.inl (.int _ _)) .nil)))
  ·rename_i hch;injection h with h;injection h with h1 h2;subst h1 h2
   have hpos:¬ pos<bs.size:=λhlt=>by
    have h3:bs.data[pos]?=some (bs[pos]'hlt):=gq hlt;have hch':(bs.data.toList.map c7)[pos]?=none:=by rw[show bs.data.toList.map c7=s from hbs];exact hch
    simp[h3]at hch'
   refine Step.same hs ⟨.tuple #[.bool false],?_,.fR _ [_] (.cons _ _ _ _ (.inl (.bool _)) .nil)⟩;rw[hp];simp[Instr.next,getObj,Sem.run,hheap,hpos]
 ·
  split at h
  case h_2=>cases h
  rename_i xo b hx;split at h
  case h_2=>cases h
  rename_i left e hob;injection h with h;injection h with h1 h2;subst h1 h2;obtain⟨hp,hblt⟩:=(aM hf hx).iV;rcases hs.obj b _ hob with⟨_,h0,_⟩ | ⟨g,m,en,cl,seen,l,k1,k2,k3,k4,k5,k6,k7⟩
  ·cases h0
  obtain⟨y,y1,⟨seen',rfl⟩,y3,y4⟩:=k7 e rfl;refine Step.same hs ⟨.tuple #[y.key,y.val],?_,.fR _ [_,_] (.cons _ _ _ _ y3.vr (.cons _ _ _ _ y4 .nil))⟩;rw[hp];exact run_entry_at c.w (c.blk b) m cl seen' en cl y k1 k3 y1 k4.st.2.1
 ·
  split at h
  case h_2=>cases h
  rename_i u hx;split at h
  case h_2=>cases h
  rename_i i hi;split at h
  ·cases h
  rename_i hni;split at h
  ·cases h
  injection h with h;injection h with h1 h2;subst h1 h2;refine Step.same hs ⟨_,?_,.A8 _ _ _ (aM hf hx)⟩;obtain⟨d,hd,hkd⟩:=(he.ty _ _ hi).kd;simp only[Instr.makeInterface,υ,ξ hd,ν];cases hk:i.kd <;> rw[hk]at hkd <;> simp only[pI]at hkd
  case A8=>exact(hni hk).elim
  case jL=>obtain⟨q,rfl,_⟩:=hkd;rfl
  case func=>obtain⟨q1,q2,q3,rfl⟩:=hkd;rfl
  all_goals (subst hkd;rfl)
 ·
  split at h
  case h_2=>cases h
  rename_i f _ _ _ _ l1 l2 hx hy;injection h with h;injection h with h1 h2;subst h1 h2;have h1:=jJ hf hx;have h2:=jJ hf hy;refine Step.same hs ⟨_,rfl,?_⟩;have:=VR.fn f l1 l2 _ _ h1 h2;have e:∀q:Array χ,(List.map a.eval q.toList).toArray=q.map a.eval:=λq=>by apply pn;simp
  rwa [e,e]at this
 ·
  rename_i t r
  have e0:(c.w.alloc (.map #[] 0)).heap[c.w.heap.size]?=some (.map #[] 0):=by
   show (c.w.heap.push _)[c.w.heap.size]?=_;simp
  have hnew:SR E (c.alloc (.map #[] 0) (.map []) 0 0):=Cx.sI hs _ _ _ _ ⟨#[],0,by
   show (c.w.alloc (.map #[] 0)).heap[if c.Z.length=c.Z.length then _ else _]?=_;rw[az rfl];exact e0,⟨MapKept.stamped_empty 0,by simp⟩,[],.nil,.nil⟩
  have hmp:VR (c.alloc (.map #[] 0) (.map []) 0 0) (.mp c.Z.length) (.map (some c.w.heap.size)):=by
   have:=VR.mp (c:=c.alloc (.map #[] 0) (.map []) 0 0) c.Z.length (by simp[Cx.alloc])
   rwa [show (c.alloc (.map #[] 0) (.map []) 0 0).blk c.Z.length=c.w.heap.size from az rfl]at this
  have new:∀{m:Sem ο},m.run P c.w=.ok (.map (some c.w.heap.size)) (c.w.alloc (.map #[] 0))->gP E c (m.run P c.w) (.mp c.Z.length) (c.Z++[.map []]):=λh=>
   ⟨_,_,h,rfl,Cx.gJ hs _ _ _ _,hnew,hmp⟩
  split at h
  ·rename_i hx;injection h with h;injection h with h1 h2;subst h1 h2;have:=oJ hf hx;refine Step.of (new ?_);revert this;generalize r.map a.eval=q;intro this;cases this;rfl
  ·rename_i k n hx;split at h
   case h_2=>cases h
   rename_i kt e _ _ _ hty;injection h with h;injection h with h1 h2;subst h1 h2;have:=oJ hf hx;refine Step.of (new ?_);revert this;generalize r.map a.eval=q;intro this;cases this with | some _ x hx=>?_;obtain⟨d,hd,hkd⟩:=(he.ty t _ hty).kd;simp only[pI]at hkd;subst hkd;rw[hx.eG];simp only[Instr.makeMap,υ,ξ hd,ν,asInt,ψ];rfl
  ·cases h
 ·
  split at h
  case h_2=>cases h
  rename_i l cc e _ _ _ k1 n k2 m hi hx hy;split at h
  case h_2=>cases h
  rename_i i hei;split at h
  case isFalse=>cases h
  rename_i hc;simp only[ak,af]at hc;injection h with h;injection h with h1 h2;subst h1 h2;have e1:=(aM hf hx).eG;have e2:=(aM hf hy).eG;dsimp only;rw[e1,e2];exact Step.of (B9 he hs hi rfl hei hc.1.1.1 hc.1.1.2 hc.1.2 hc.2)
 ·
  split at h
  case h_2=>cases h
  rename_i u l1 l2 l3 hx h1 h2 h3;cases hl:slice E c.Z _ u l1 l2 l3 with
  |none=>rw[hl]at h;cases h
  |some r=>
   rw[hl]at h;injection h with h;injection h with g1 g2;subst g1 g2;exact Step.same hs (H9 he hs hl (aM hf hx) (oJ hf h1) (oJ hf h2) (oJ hf h3))
 ·
  split at h
  case h_2=>cases h
  rename_i u hx;cases hl:fieldAddr E _ u _ with
  |none=>rw[hl]at h;cases h
  |some r=>
   rw[hl]at h;injection h with h;injection h with h1 h2;subst h1 h2;exact Step.same hs (Ce he hl (aM hf hx))
 ·
  split at h
  case h_2=>cases h
  rename_i u hx;cases hl:field E _ u _ with
  |none=>rw[hl]at h;cases h
  |some r=>
   rw[hl]at h;injection h with h;injection h with h1 h2;subst h1 h2;exact Step.same hs (Jb he hl (aM hf hx))
 ·
  split at h
  case h_2=>cases h
  rename_i u w hx hy;cases hl:indexAddr E _ u w with
  |none=>rw[hl]at h;cases h
  |some r=>
   rw[hl]at h;injection h with h;injection h with h1 h2;subst h1 h2;exact Step.same hs (Cc he hl (aM hf hx) (aM hf hy))
 ·
  split at h
  case h_2=>cases h
  rename_i u w hx hy;cases hl:index E _ u w with
  |none=>rw[hl]at h;cases h
  |some r=>
   rw[hl]at h;injection h with h;injection h with h1 h2;subst h1 h2;exact Step.same hs (I4 he hl (aM hf hx) (aM hf hy))
 ·
  split at h
  case h_2=>cases h
  rename_i u w hx hy;cases hl:lookup E c.Z _ u w _ with
  |none=>rw[hl]at h;cases h
  |some r=>
   rw[hl]at h;injection h with h;injection h with h1 h2;subst h1 h2;exact Step.same hs (GY he hs hl (aM hf hx) (aM hf hy))
 ·
  split at h
  case h_2=>cases h
  rename_i u w q hx hy hz;cases hl:mapUpdate E c.Z _ u w q with
  |none=>rw[hl]at h;cases h
  |some r=>
   rw[hl]at h;injection h with h;injection h with h1 h2;subst h1 h2;exact Step.unit (uH he hs hl (aM hf hx) (aM hf hy) (aM hf hz))
 ·
  split at h
  case h_2=>cases h
  rename_i u w q hx hy hz;cases hl:mapUpdate E c.Z _ u w q with
  |none=>rw[hl]at h;cases h
  |some r=>
   rw[hl]at h;injection h with h;injection h with h1 h2;subst h1 h2;exact Step.unit (uH he hs hl (aM hf hx) (aM hf hy) (aM hf hz))
 ·
  split at h
  case h_2=>cases h
  rename_i t j _ vs hx;cases hl:vs[j]? with
  |none=>rw[hl]at h;cases h
  |some r=>
   rw[hl]at h;injection h with h;injection h with g1 g2;subst g1 g2;obtain⟨xs,hxs,hv⟩:=(aM hf hx).Gu;obtain⟨y,hy,hyv⟩:=hv.get j _ hl;refine Step.same hs ⟨y,?_,hyv⟩;rw[hxs];simp[Instr.extract,hy]
 ·
  split at h
  case h_2=>cases h
  rename_i l hl;have hvs:=jJ hf hl;rename_i b args ats _;obtain⟨c',y,h1,h2⟩:=xN he hs h hvs (ty:=type) (consts:=args.map fun | .const _=>true | _=>false);have e:(List.map a.eval args.toList).toArray=args.map a.eval:=by apply pn;simp
  rw[e]at h1;refine⟨c',y,.inl ?_,h2⟩;simp only[resolve,invoke,υ,ψ,ν];exact h1
 ·cases h
end
section
variable {E:Env}{c:Cx}
theorem Ds{α β:Type}{f:α->Option β}:∀{l:List α}{r:List β},aW f l=some r->r.length=l.length/\∀(j:Nat)(y:β),r[j]?=some y->∃x,l[j]?=some x/\f x=some y
 | [],r,h=>by simp only[aW]at h;cases h;simp
 |x::l,r,h=>by
  simp only[aW]at h;split at h
  ·rename_i y hy;split at h
   ·rename_i l' hl;cases h;obtain⟨h1,h2⟩:=Ds hl;refine⟨by simp[h1],λj z hj=>?_⟩;cases j with
    |zero=>simp at hj;subst hj;exact⟨x,rfl,hy⟩
    |succ j=>simpa using h2 j z (by simpa using hj)
   ·cases h
  ·cases h
theorem Ph{w:Γ}{I J:Bool->Nat->Prop}{g:Bool}{v:V}{x:ο}(h:IR w J v x)(ht:cI g v=true)(H:∀h k,J (g&&h) k->I (g&&h) k):IR w (sub g I) v x:=by
 have hk:∀h:Bool,(g || !h)=true->(g&&h)=h:=by intro h;cases g <;> cases h <;> simp
 cases h with
 |bool=>exact .bool _
 |int=>exact .int _ _
 |str=>exact .str _
 |fV=>exact .fV
 |aG=>exact .aG
 |cA=>exact .cA
 |rH=>exact .rH
 |rT=>exact .rT
 |fn=>exact .fn _
 |emp h full a=>exact .emp h full a
 |bV h xs full blk off len cap sz hi hl hc hf hr=>
  have e:=hk h ht
  have W:qY w w (sub h J) (sub h (sub g I)):=λa k hk'=>⟨by
   have:=H (h&&a) k (by rw[<- Bool.and_assoc,e];exact hk');exact this,rfl⟩
  exact .bV h xs full blk off len cap sz (by have:=H h blk (by rw[e];exact hi);exact this) hl hc hf (hr.mono W (λ_=>rfl))
 |cR h cs blk off hi hr=>
  have e:=hk h ht
  have W:qY w w (sub h J) (sub h (sub g I)):=λa k hk'=>⟨by
   have:=H (h&&a) k (by rw[<- Bool.and_assoc,e];exact hk');exact this,rfl⟩
  exact .cR h cs blk off (by have:=H h blk (by rw[e];exact hi);exact this) (hr.mono W (λ_=>rfl))
 |imp h es blk entries clock l hi hm ho hp hr=>
  have e:=hk h ht
  have W:qY w w (sub h J) (sub h (sub g I)):=λa k hk'=>⟨by
   have:=H (h&&a) k (by rw[<- Bool.and_assoc,e];exact hk');exact this,rfl⟩
  exact .imp h es blk entries clock l (by have:=H h blk (by rw[e];exact hi);exact this) hm ho hp (hr.mono W)
theorem sub_sub(g:Bool)(I:Bool->Nat->Prop):sub g (sub g I)=sub g I:=by
 funext h k;simp[sub]
theorem Iq{w:Γ}{I J:Bool->Nat->Prop}{v:V}{x:ο}(hp:plainCell v=true)(h:IR w J v x):IR w I v x:=by
 cases h <;> first
  |exact .bool _ | exact .int _ _ | exact .str _ | cases hp
theorem ND{w:Γ}{I J:Bool->Nat->Prop}{cs:List V}{xs:List ο}(hp:cs.all plainCell=true)(h:Ci w J cs xs):Ci w I cs xs:=by
 induction cs generalizing xs with
 |nil=>cases h;exact .nil
 |cons v cs ih=>
  cases h with | cons v x cs xs hv hr=>
  simp only[iy,ak]at hp;exact .cons _ _ _ _ (Iq hp.1 hv) (ih hp.2 hr)
theorem Fm{w:Γ}{I J:Bool->Nat->Prop}{v:V}{x:ο}(hp:v.cells.all plainCell=true)(h:sM w J v x):sM w I v x:=by
 cases h with
 |one h=>
  refine .one (Iq ?_ h);cases h <;> simpa [V.cells]using hp
 |agg cs xs h=>exact .agg _ _ (ND hp h)
theorem GI{w:Γ}{I:Bool->Nat->Prop}{sz blk:Nat}:∀(n off:Nat)(l:List V),n*sz<=l.length->dS w I l blk off->eK w I sz (rows sz n l) blk off
 |0,_,_,_,_=>.nil
 |n+1,off,l,hl,h=>by
  have hsz:sz<=l.length:=by rw[oe]at hl;omega
  refine .cons _ _ (by simp;omega) (.rD λj v hj=>?_) (GI n (off+sz) _ (by rw[oe]at hl;simp;omega) (h.drop sz));have hj':j<sz:=by have:=(AI.1 hj).1;simp at this;omega
  exact h.get j v (by simpa [getElem?_take,hj']using hj)
theorem C_(sz:Nat):∀(n:Nat)(l:List V),(rows sz n l).length=n
 |0,_=>rfl
 |n+1,l=>by simp[rows,C_ sz n]
theorem Bw(hs:SR E c){I:Bool->Nat->Prop}{g:Bool}(H:∀h k,c.bE (g&&h) k->I (g&&h) k){S:Nat->Prop}(hS:∀b,S b->live c.Z b->I g (c.blk b)) :
  ∀(n:Nat) {v v':V}{x:ο},bA c.Z E.ty g n v=some v'->VR c v x->(∀b∈gT c.Z n v,S b)->cI g v'=true->IR c.w (sub g I) v' x
 |0,v,v',x,h,_,_,_=>by simp only[bA]at h;cases h
 |n+1,v,v',x,h,hv,hb,ht=>by
  have ih:=λ{v v':V}{x:ο}=>Bw hs H hS n (v:=v) (v':=v') (x:=x)
  have rec1:∀{v v':V}{x:ο},(match bA c.Z E.ty g n v with
   |some v=>if cI g v then some v else no "snap: borrowed"
   |none=>none)=some v'->VR c v x->(∀b∈gT c.Z n v,S b)->IR c.w (sub g I) v' x:=by
   intro v v' x h hv hb;split at h
   ·rename_i u hu;split at h
    ·rename_i ht;cases h;exact ih hu hv hb ht
    ·cases h
   ·cases h
  simp only[bA]at h;split at h
  ·
   rename_i b off;split at h
   ·rename_i t cs ex hob;split at h
    ·rename_i l hl;cases h;obtain⟨rfl,hlt⟩:=hv.iV;obtain⟨arr,g1,g2,g3,g4,g5,g6,g7⟩:=(hs.obj b _ hob).jC;obtain⟨hll,hlg⟩:=Ds hl;have hlv:live c.Z b:=⟨_,hob,rfl⟩;refine .cR g l _ _ (by have:=hS b (hb b (by simp[gT])) hlv;simpa [sub]using this) ?_;rw[sub_sub];refine .rD λj v hj=>?_;obtain⟨u,hu,hr⟩:=hlg j v hj;have hu':cs[off+j]?=some u:=by simpa using hu
     obtain⟨x,hx,hxr⟩:=g6.get _ _ hu';have hlt:off+j<cs.length:=(AI.1 hu').1;refine⟨x,?_,rec1 hr hxr λb' hb'=>hb b' ?_⟩
     ·rw[oA g1];simpa [getElem?_take,hlt]using hx
     ·simp only[gT,hob,IN,ij];exact .inr ⟨u,ag hu',hb'⟩
    ·cases h
   ·cases h
  ·
   rename_i b off len cap;split at h
   ·rename_i t cs ex hob;split at h
    ·rename_i i hi;split at h
     ·rename_i hle;split at h
      ·rename_i l hl;cases h;obtain⟨cap',rfl,hlt,hlc,hk,ht'⟩:=hv.mR;obtain⟨arr,g1,g2,⟨i',hi',hez⟩,g4,g5,g6,g7⟩:=(hs.obj b _ hob).jC;rw[hi]at hi';injection hi' with hi';subst hi';obtain⟨hll,hlg⟩:=Ds hl;have hlv:live c.Z b:=⟨_,hob,rfl⟩;have hlen:l.length=len*i.size:=by rw[hll];simp;omega
       refine .bV g _ _ _ _ len cap' i.size (by have:=hS b (hb b (by simp[gT])) hlv;simpa [sub]using this) (C_ _ _ _).symm hlc ?_ ?_
       ·intro hf;split at hf
        ·rename_i k;rw[hk k rfl];simpa using hf
        ·simp only[ak,af,gp]at hf;have e1:=ht' rfl;have e2:=g5 hf.1.1;rw[hez,<- g2,<- e2,<- hf.2]at e1;have:cap'*i.size=len*i.size:=by omega
         exact Nat.eq_of_mul_eq_mul_right hf.1.2 this
       ·refine GI len off l (by omega) ?_;rw[sub_sub];refine .rD λj v hj=>?_;obtain⟨u,hu,hr⟩:=hlg j v hj;have hj':j<len*i.size:=by have:=(AI.1 hj).1;omega
        have hu':cs[off+j]?=some u:=by simpa [getElem?_take,hj']using hu
        obtain⟨x,hx,hxr⟩:=g6.get _ _ hu';have hlt:off+j<cs.length:=(AI.1 hu').1;refine⟨x,?_,rec1 hr hxr λb' hb'=>hb b' ?_⟩
        ·rw[oA g1];simpa [getElem?_take,hlt]using hx
        ·simp only[gT,hob,IN,ij];exact .inr ⟨u,ag hu',hb'⟩
      ·cases h
     ·cases h
    ·cases h
   ·cases h
  ·
   rename_i b;split at h
   ·rename_i es hob;split at h
    ·rename_i l hl;cases h;obtain⟨rfl,hlt⟩:=hv.yC;obtain⟨entries,clock,hm,hok,el,hpe,hmr⟩:=hs.obj b _ hob;have hlv:live c.Z b:=⟨_,hob,rfl⟩;refine .imp g l _ entries clock el (by have:=hS b (hb b (by simp[gT])) hlv;simpa [sub]using this) hm hok hpe ?_;rw[sub_sub]
     have hbs:∀e∈es,∀b'∈e.2.cells.flatMap (gT c.Z n),S b':=by
      intro e he b' hb';refine hb b' ?_;simp only[gT,hob,IN,ij];exact .inr ⟨e,he,by simpa using hb'⟩
     clear hob hm hb hv ht hpe hok
     induction es generalizing l el with
     |nil=>
      cases hmr;simp only[aW]at hl;cases hl;exact .nil
     |cons e es ihe=>
      cases hmr with | cons k v es' e' el' hk hv hr=>
      simp only[aW]at hl;split at hl
      case h_2=>cases hl
      rename_i y hy;split at hl
      case h_2=>cases hl
      rename_i l' hl';cases hl;have hrest:=ihe l' hl' el' hr (λe he=>hbs e (by simp[he]));split at hy
      case isFalse=>cases hy
      rename_i hpk;split at hy
      ·rename_i cs;split at hy
       case h_2=>cases hy
       rename_i cs' hcs;cases hy;obtain⟨xs,hx,hvs⟩:=hv.uB;refine .cons _ _ _ _ _ (Fm hpk hk) ?_ hrest;rw[hx];refine .agg _ _ ?_;have hb0:=hbs _ (No ..);simp only[V.cells]at hb0;clear hx hbs hrest ihe hl' hr hv
       induction cs generalizing cs' xs with
       |nil=>
        cases hvs;simp only[aW]at hcs;cases hcs;exact .nil
       |cons u cs ihc=>
        cases hvs with | cons _ x _ xs hu hus=>
        simp only[aW]at hcs;split at hcs
        case h_2=>cases hcs
        rename_i y hy;split at hcs
        case h_2=>cases hcs
        rename_i l'' hl'';cases hcs
        exact .cons _ _ _ _ (rec1 hy hu λb' hb'=>hb0 b' (by simp[hb'])) (ihc l'' hl'' xs hus λb' hb'=>hb0 b' (by
         simp only[fg,cq];exact .inr hb'))
      ·rename_i hna;split at hy
       case h_2=>cases hy
       rename_i v' hv';cases hy;refine .cons _ _ _ _ _ (Fm hpk hk) (.one (rec1 hv' hv λb' hb'=>hbs _ (No ..) b' ?_)) hrest
       have:v.cells=[v]:=by
        cases v <;> first | rfl | exact(hna _ rfl).elim
       simp[this,hb']
    ·cases h
   ·cases h
  ·
   cases h;obtain⟨xs,ys,rfl,h1,h2⟩:=hv.A_;cases h1;cases h2;exact .fn _
  ·cases h
  ·cases h
  ·cases h
  ·cases h
  ·cases h
  ·cases h;cases hv with
   |inl h=>exact Ph h ht H
   |_=>first
    |contradiction
    |(exfalso;apply_assumption <;> rfl)
    |(exfalso;simp_all;done)
end
section
variable {E:Env}{c d:Cx}
theorem rA(hs:SR E c){I:Bool->Nat->Prop}{g:Bool}(H:∀h k,c.bE (g&&h) k->I (g&&h) k){S:Nat->Prop}(hS:∀b,S b->live c.Z b->I g (c.blk b))(hw:d.w=c.w)(hd:∀h k,I (g&&h) k->d.bE h k)
  {v v':V}{x:ο}(h:aR.one c.Z E.ty g v=some v')(hv:VR c v x)(hb:∀b∈gT c.Z dN v,S b):VR d v' x:=by
 unfold aR.one at h;split at h
 case h_2=>cases h
 rename_i u hu;split at h
 case isFalse=>cases h
 rename_i ht;cases h;have:=Bw hs H hS dN hu hv hb ht;refine .inl (IR.mono (I:=sub g I) (I':=d.bE) (w:=c.w) (w':=d.w) (λh k hk=>⟨hd h k hk,by rw[hw]⟩) this)
theorem mQ(hs:SR E c){I:Bool->Nat->Prop}{g:Bool}(H:∀h k,c.bE (g&&h) k->I (g&&h) k){S:Nat->Prop}(hS:∀b,S b->live c.Z b->I g (c.blk b))(hw:d.w=c.w)(hd:∀h k,I (g&&h) k->d.bE h k) :
  ∀{vs vs':List V}{xs:List ο},aW (aR.one c.Z E.ty g) vs=some vs'->fH c vs xs->(∀b∈vs.flatMap (gT c.Z dN),S b)->fH d vs' xs
 | [],vs',xs,h,hv,_=>by
  cases hv;simp only[aW]at h;cases h;exact .nil
 |v::vs,vs',xs,h,hv,hb=>by
  cases hv with | cons _ x _ xs hx hr=>
  simp only[aW]at h;split at h
  case h_2=>cases h
  rename_i u hu;split at h
  case h_2=>cases h
  rename_i l hl;cases h;exact .cons _ _ _ _ (rA hs H hS hw hd hu hx λb hb'=>hb b (by simp[hb'])) (mQ hs H hS hw hd hl hr λb hb'=>hb b (by rw[fg,cq];exact .inr hb'))
theorem Bv(hs:SR E c){I:Bool->Nat->Prop}{g:Bool}(H:∀h k,c.bE (g&&h) k->I (g&&h) k){S:Nat->Prop}(hS:∀b,S b->live c.Z b->I g (c.blk b))(hw:d.w=c.w)(hd:∀h k,I (g&&h) k->d.bE h k)
  {v v':V}{x:ο}(h:aR c.Z E.ty g v=some v')(hv:VR c v x)(hb:∀b∈nD c.Z v,S b):VR d v' x:=by
 unfold aR at h;split at h
 ·rename_i f a b;split at h
  case h_2=>cases h
  rename_i a' b' ha hb';cases h;obtain⟨xs,ys,rfl,h1,h2⟩:=hv.A_;exact .fn f _ _ _ _ (mQ hs H hS hw hd ha h1 λb hb'=>hb b (by simp only[nD,cq];exact .inl hb')) (mQ hs H hS hw hd hb' h2 λb hb'=>hb b (by simp only[nD,cq];exact .inr hb'))
 ·rename_i cs;split at h
  case h_2=>cases h
  rename_i l hl;cases h;obtain⟨xs,rfl,h1⟩:=hv.uB;exact .agg _ _ (mQ hs H hS hw hd hl h1 λb hb'=>hb b (by simpa only[nD]using hb'))
 ·rename_i t u;split at h
  case h_2=>cases h
  rename_i l hl;cases h;obtain⟨y,rfl,h1⟩:=hv.G_;exact .A8 _ _ _ (rA hs H hS hw hd hl h1 λb hb'=>hb b (by simpa only[nD]using hb'))
 ·rename_i n1 n2 n3;refine rA hs H hS hw hd h hv λb hb'=>hb b ?_
  cases v <;> first
   |exact hb'
   |exact(n1 _ _ _ rfl).elim
   |exact(n2 _ rfl).elim
   |exact(n3 _ _ rfl).elim
theorem sU(hs:SR E c){I:Bool->Nat->Prop}{g:Bool}(H:∀h k,c.bE (g&&h) k->I (g&&h) k){S:Nat->Prop}(hS:∀b,S b->live c.Z b->I g (c.blk b))(hw:d.w=c.w)(hd:∀h k,I (g&&h) k->d.bE h k) :
  ∀{vs vs':List V}{xs:List ο},aW (aR c.Z E.ty g) vs=some vs'->fH c vs xs->(∀b∈vs.flatMap (nD c.Z),S b)->fH d vs' xs
 | [],vs',xs,h,hv,_=>by
  cases hv;simp only[aW]at h;cases h;exact .nil
 |v::vs,vs',xs,h,hv,hb=>by
  cases hv with | cons _ x _ xs hx hr=>
  simp only[aW]at h;split at h
  case h_2=>cases h
  rename_i u hu;split at h
  case h_2=>cases h
  rename_i l hl;cases h;exact .cons _ _ _ _ (Bv hs H hS hw hd hu hx λb hb'=>hb b (by simp[hb'])) (sU hs H hS hw hd hl hr λb hb'=>hb b (by rw[fg,cq];exact .inr hb'))
def Cx.inner(c c1:Cx):Cx:={ c with Z:=[],nT:=λk=>c.nT k\/c1.own k }
def Cx.outer(c1:Cx)(w:Γ):Cx:={ c1 with w:=w }
theorem Dy{Z:Sg}{b:Nat}:∀{l:List Nat} , live (kill Z l) b->live Z b/\b ∉ l:=by
 intro l
 induction l generalizing Z with
 |nil=>intro h;exact⟨h,by simp⟩
 |cons a l ih=>
  intro h;obtain⟨h1,h2⟩:=ih (Z:=Z.set a .dead) h;obtain⟨h3,h4⟩:=gI h1;exact⟨h3,by simp[h4,h2]⟩
def Cx.fW(c:Cx)(l:List Nat):Cx:={ c with Z:=Ax.kill c.Z l }
theorem Cx.QZ(hs:SR E c):∀l,Ext c (c.fW l)/\SR E (c.fW l):=by
 intro l
 induction l generalizing c with
 |nil=>exact⟨Ext.refl c,hs⟩
 |cons a l ih=>
  obtain⟨h1,h2⟩:=ih (Cx.Mw hs a);exact⟨(c.vL a).trans h1,h2⟩
theorem Fo{l:List Nat}{k:Nat}(h:(c.fW l).own k):c.own k:=by
 obtain⟨b,hl,hb⟩:=h;exact⟨b,(Dy hl).1,hb⟩
theorem nO{l:List Nat}{k:Nat}:¬ (c.inner (c.fW l)).own k:=by
 rintro⟨b,⟨o,ho,_⟩,_⟩;cases ho
theorem rX(hs:SR E c)(l:List Nat):SR E (c.inner (c.fW l)) where
 inj:=λb b' h=>by
  obtain⟨o,ho,_⟩:=h;cases ho
 obj:=λb o ho=>by cases ho
 nT:=λb h=>by
  obtain⟨o,ho,_⟩:=h;cases ho
 jF:=λk h=>by
  rcases h with h | h
  ·exact hs.jF k h
  ·exact hs.vC (Fo h)
 gl:=λk p hk=>let ⟨o,h1,h2,_⟩:=hs.gl k p hk; ⟨o,h1,h2,nO⟩
theorem Hv(hs:SR E c){g:Bool}{l:List Nat}{vs vs':List V}{xs:List ο}(h:aW (aR c.Z E.ty g) vs=some vs')(hv:fH c vs xs)(hg:g=true\/∀b∈vs.flatMap (nD c.Z),b∈l) :
  fH (c.inner (c.fW l)) vs' xs:=by
 refine sU (d:=c.inner (c.fW l)) hs (I:=(c.inner (c.fW l)).bE) (S:=λb=>g=true\/b∈l) ?_ ?_ rfl ?_ h hv ?_
 ·intro h k hk
  exact⟨hk.1,nO,λe=>λha=>by
   rcases ha with ha | ha
   ·exact hk.2.2 e ha
   ·exact hk.2.1 (Fo ha)⟩
 ·intro b hb hl;refine⟨hs.lt hl,nO,λe=>λha=>?_⟩;rcases ha with ha | ⟨b',hl',e'⟩
  ·exact hs.nT b hl ha
  ·obtain⟨h1,h2⟩:=Dy hl';have:=hs.inj b' b h1 hl e';subst this;rcases hb with hb | hb
   ·rw[hb]at e;cases e
   ·exact h2 hb
 ·intro h k hk;exact DK hk
 ·intro b hb;rcases hg with hg | hg
  ·exact .inl hg
  ·exact .inr (hg b hb)
theorem wP(hs:SR E c){w:Γ}(hsz:c.w.heap.size<=w.heap.size)(hk:∀k,k<c.w.heap.size->w.heap[k]?=c.w.heap[k]?)(h1:w.os=c.w.os)(h2:w.tape=c.w.tape)(h3:w.output=c.w.output) :
  Ext c (c.outer w)/\SR E (c.outer w):=by
 have he:Ext c (c.outer w):=⟨hsz,λk hlt ho=>⟨hk k hlt,λ⟨b,hl,hb⟩=>ho ⟨b,hl,hb⟩⟩,OF _,λ_ _=>rfl,λ_ _=>rfl,λ_ _=>rfl,rfl,h1,h2,h3⟩;refine⟨he,⟨hs.inj,λb o hb=>?_,hs.nT,λk hk=>ig (hs.jF k hk) hsz,qG he hs.gl⟩⟩;by_cases hl:live c.Z b
 ·exact(hs.obj b o hb).mono he (eC hl) (hk _ (hs.lt hl))
 ·cases o with
  |dead=>exact True.intro
  |_=>exact(hl ⟨_,hb,rfl⟩).elim
theorem pK(hs:SR E c){l:List Nat}(hx:Ext (c.inner (c.fW l)) d)(hd:SR E d){v v':V}{x:ο}(hv:VR d v x)(h:cQ d.Z E.ty false v=some v') :
  Ext c ((c.fW l).outer d.w)/\SR E ((c.fW l).outer d.w)/\VR ((c.fW l).outer d.w) v' x:=by
 obtain⟨k1,k2⟩:=Cx.QZ hs l;obtain⟨g1,g2⟩:=wP k2 (w:=d.w) hx.size (λk hk=>(hx.keep k hk nO).1) hx.os hx.tape hx.output;refine⟨k1.trans g1,g2,?_⟩
 have hanc:∀k,¬ d.nT k->¬ c.nT k/\¬ (c.fW l).own k:=λk hk=>by
  rw[hx.nT]at hk;exact⟨λh=>hk (.inl h),λh=>hk (.inr h)⟩
 have H:∀h k,d.bE (false&&h) k->((c.fW l).outer d.w).bE (false&&h) k:=λh k hk=>by
  obtain⟨a1,a2,a3⟩:=hk;obtain⟨b1,b2⟩:=hanc k (a3 (by simp));exact⟨a1,λ⟨b,hl,hb⟩=>b2 ⟨b,hl,hb⟩,λ_=>b1⟩
 have hS:∀b,True->live d.Z b->((c.fW l).outer d.w).bE false (d.blk b):=λb _ hl=>by
  obtain⟨b1,b2⟩:=hanc _ (hd.nT b hl);exact⟨hd.lt hl,λ⟨b,hl,hb⟩=>b2 ⟨b,hl,hb⟩,λ_=>b1⟩
 have hdd:∀h k,((c.fW l).outer d.w).bE (false&&h) k->((c.fW l).outer d.w).bE h k:=λh k hk=>DK hk;unfold cQ at h;split at h
 ·rename_i vs;split at h
  case h_2=>cases h
  rename_i l' hl';cases h;obtain⟨xs,rfl,hvs⟩:=hv.Gu;exact .fR _ _ (sU (d:=(c.fW l).outer d.w) hd H hS rfl hdd hl' hvs λ_ _=>trivial)
 ·exact Bv (d:=(c.fW l).outer d.w) hd H hS rfl hdd h hv λ_ _=>trivial
end
def sK(P:ar)(f:Nat)(xs:List ο)(w:Γ)(R:ο->Γ->Prop):Prop:=
 ((callFunc f xs.toArray).run P w=.ok (.enter f xs.toArray) w/\Calls P f xs.toArray w λe w'=>∃x,e=.returned x/\R x w') \/
 ∃x w',(callFunc f xs.toArray).run P w=.ok (.value x) w'/\R x w'
theorem sK.mono{P:ar}{f:Nat}{xs:List ο}{w:Γ}{R R':ο->Γ->Prop}(h:sK P f xs w R)(hr:∀x w',R x w'->R' x w'):sK P f xs w R':=by
 rcases h with⟨h1,h2⟩ | ⟨x,w',h1,h2⟩
 ·exact .inl ⟨h1,h2.mono λe w' ⟨x,hx,h⟩=>⟨x,hx,hr _ _ h⟩⟩
 ·exact .inr ⟨x,w',h1,hr _ _ h2⟩
def jO(E:Env)(c:Cx)(v:V)(σ':Sg)(x:ο)(w':Γ):Prop:=∃c':Cx,c'.w=w'/\c'.Z=σ'/\Ext c c'/\SR E c'/\VR c' v x
structure f_ (P:ar) (E:Env):Prop where
 fn:∀f F,E.fn f=some F->∃fn,P.funcs[f]?=some fn/\fn.body=some F.code/\fn.ntmps=F.ntmps/\fn.results.toList=F.results/\(fn.name == "runtime.NumGoroutine")=false
 spec:∀f s,E.spec f=some s->∀(d:Cx)(vs:List V)(xs:List ο)(v:V),d.Z=[]->SR E d->fH d vs xs->s vs=some v->sK P f xs d.w (jO E d v [])
 hspec:∀f s,E.hspec f=some s->∀(c:Cx)(vs:List V)(xs:List ο)(v:V)(σ':Sg),SR E c->fH c vs xs->s vs c.Z=some (v,σ')->sK P f xs c.w (jO E c v σ')
def VB:X->Exit->Prop
 | .normal,e=>e=.normal
 | .exit id,e=>e=.exit id
 | .ret,e=>e=.ret
def Post(E:Env)(c:Cx)(r:X)(fr':Fr)(σ':Sg)(e:Exit)(a:Act)(w:Γ):Prop:=
 VB r e/\a.defers=[]/\∃c':Cx,c'.w=w/\c'.Z=σ'/\Ext c c'/\SR E c'/\FR c' fr' a.tmps
def Gi(P:ar)(E:Env)(ev:yQ):Prop:=∀(code:Code)(fr:Fr)(Z:Sg)(r:X)(fr':Fr)(σ':Sg),ev code fr Z=some (r,fr',σ') ->
 ∀(c:Cx)(a:Act),SR E c->c.Z=Z->FR c fr a.tmps->a.defers=[]->code.wp P (Post E c r fr' σ') a c.w
section
variable {P:ar}{E:Env}{ev:yQ}
def Wz(tmps:Array ο):ResultVar->Sem ο
 | .tmp t=>pure (tmps.getD t undef)
 | .cell a t=>do loadVar t (<- asAddr (tmps.getD a undef))
theorem sX(fn:Func)(tmps:Array ο):Go.results fn tmps=(do
  let vs <- fn.results.mapM (Wz tmps)
  pure (if h:vs.size=1 then vs[0] else .tuple vs)):=rfl
theorem jR(he:cG P E){c:Cx}(hs:SR E c){fr:Fr}{tmps:Array ο}(hf:FR c fr tmps):∀{rs:List ResultVar}{vs:List V},Ax.results E fr c.Z rs=some vs ->
  ∃xs:List ο,(rs.mapM (Wz tmps)).run P c.w=.ok xs c.w/\fH c vs xs
 | [],vs,h=>by
  simp only[Ax.results]at h;cases h;exact⟨[],by simp,.nil⟩
 | .tmp t::rs,vs,h=>by
  simp only[Ax.results]at h;split at h
  case h_2=>cases h
  rename_i v l hv hl;cases h;obtain⟨xs,h1,h2⟩:=jR he hs hf hl;exact⟨tmps.getD t undef::xs,by simp only[List.mapM_cons,Wz,υ,ψ,ν,h1],.cons _ _ _ _ (hf.get hv) h2⟩
 | .cell a t::rs,vs,h=>by
  simp only[Ax.results]at h;split at h
  case h_2=>cases h
  rename_i v l hv hl;cases hla:loadAt E c.Z t v with
  |none=>rw[hla]at h;cases h
  |some u=>
   rw[hla]at h;cases h;obtain⟨xs,h1,h2⟩:=jR he hs hf hl;obtain⟨y,hy,hyv⟩:=Dw he hs hla (hf.get hv);refine⟨y::xs,?_,.cons _ _ _ _ hyv h2⟩
   have e:(do loadVar t (<- asAddr (tmps.getD a undef)):Sem ο).run P c.w=.ok y c.w:=by
    have hx:=hf.get hv;revert hy hx;generalize tmps.getD a undef=q;intro hy hx;unfold loadAt at hla;split at hla
    ·cases hla
    ·split at hla
     ·obtain⟨rfl,_⟩:=hx.iV;simpa [Instr.loadAt,ms,asAddr]using hy
     ·obtain⟨blk,off,rfl,_⟩:=hx.z_;simpa [Instr.loadAt,ms,asAddr]using hy
     ·cases hla
   simp only[List.mapM_cons];rw[υ];show ((do loadVar t (<- asAddr (tmps.getD a undef)):Sem ο).run P c.w).andThen _=_;rw[e];simp only[ν,υ,h1,ψ]
theorem vT(he:cG P E)(hfs:f_ P E)(hev:Gi P E ev){f:Nat}{F:Fn}(hF:E.fn f=some F){c:Cx}(hs:SR E c){vs:List V}{xs:List ο}(hv:fH c vs xs){v:V}{σ':Sg}
  (h:enter E ev F vs c.Z=some (v,σ')):Calls P f xs.toArray c.w λe w'=>∃x,e=.returned x/\jO E c v σ' x w':=by
 obtain⟨fn,h1,h2,h3,h4,h5⟩:=hfs.fn f F hF;unfold enter at h;split at h
 ·cases h
 rename_i fr0 hfr0
 have main:∀{r:X}{fr:Fr}{σ1:Sg},ev F.code fr0 c.Z=some (r,fr,σ1)->(∀e,VB r e->e=.normal\/e=.ret) ->
   (match Ax.results E fr σ1 F.results with
    |some [v]=>some (v,σ1)
    |some vs=>some (.fR vs,σ1)
    |none=>no "results")=some (v,σ')->Calls P f xs.toArray c.w λe w'=>∃x,e=.returned x/\jO E c v σ' x w':=by
  intro r fr σ1 he1 hr hres;refine calls_of_wp h1 h2 ?_
  have:=hev _ _ _ _ _ _ he1 c { tmps:=xs.toArray++Array.replicate (fn.ntmps-xs.toArray.size) undef,defers:=[] } hs rfl (by
   have:=FR.init hv hfr0;simpa [h3]using this) rfl
  refine wp_mono this ?_;rintro e a w ⟨hx,hd,c',rfl,rfl,k1,k2,k3⟩
  have fin:a.defers=[]/\∃v',(Go.results fn a.tmps).run P c'.w=.ok v' c'.w/\∃x,Ending.returned v'=.returned x/\jO E c v σ' x c'.w:=by
   refine⟨hd,?_⟩;split at hres
   ·rename_i u hu;injection hres with hres;injection hres with e1 e2;subst e1 e2;obtain⟨ys,g1,g2⟩:=jR he k2 k3 hu;cases g2 with | cons _ y _ ys hy hr=>
    cases hr;refine⟨y,?_,y,rfl,c',rfl,rfl,k1,k2,hy⟩;rw[sX,o9,h4];simp only[υ,Sem.run_map];rw[g1];simp
   ·rename_i us hns hu;injection hres with hres;injection hres with e1 e2;subst e1 e2;obtain⟨ys,g1,g2⟩:=jR he k2 k3 hu;refine⟨.tuple ys.toArray,?_,_,rfl,c',rfl,rfl,k1,k2,.fR _ _ g2⟩;rw[sX,o9,h4];simp only[υ,Sem.run_map];rw[g1]
    have:ys.length≠1:=by
     intro e;have hl:=g2.len;rw[e]at hl
     match us,hl with
     | [u],_=>exact hns u rfl
    simp[this]
   ·cases hres
  rcases hr e hx with rfl | rfl
  ·exact fin
  ·exact fin
 split at h
 ·rename_i fr σ1 he1;exact main he1 (λe h=>.inr h) h
 ·rename_i fr σ1 he1;exact main he1 (λe h=>.inl h) h
 ·cases h
theorem Jk(he:cG P E)(hfs:f_ P E)(hev:Gi P E ev){f:Nat}{c:Cx}(hs:SR E c){vs:List V}{xs:List ο}(hv:fH c vs xs){v:V}{σ':Sg}
  (h:iH E ev f vs c.Z=some (v,σ')):sK P f xs c.w (jO E c v σ'):=by
 unfold iH at h;split at h
 ·rename_i s hsp;exact hfs.hspec f s hsp c vs xs v σ' hs hv h
 split at h
 ·rename_i s hsp;split at h
  case h_2=>cases h
  rename_i vs' hvs';split at h
  case h_2=>cases h
  rename_i u hu;split at h
  case h_2=>cases h
  rename_i u' hu';injection h with h;injection h with h1 h2;subst h1 h2;have hin:=Hv (g:=true) (l:=[]) hs hvs' hv (.inl rfl);have hr:=hfs.spec f s hsp (c.inner (c.fW [])) vs' xs u rfl (rX hs []) hin hu;refine hr.mono ?_;rintro x w' ⟨d,rfl,hdσ,hx,hsd,hxv⟩;rw[<- hdσ]at hu';obtain⟨g1,g2,g3⟩:=pK hs hx hsd hxv hu';exact⟨(c.fW []).outer d.w,rfl,rfl,g1,g2,g3⟩
 split at h
 ·cases h
 rename_i F hF;obtain⟨fn,f1,f2,f3,f4,f5⟩:=hfs.fn f F hF
 have hcall:∀xs:List ο,(callFunc f xs.toArray).run P c.w=.ok (.enter f xs.toArray) c.w:=by
  intro xs;have f5':¬ fn.name = "runtime.NumGoroutine" := by simpa using f5
  simp[callFunc,f1,f5',f2]
 split at h
 ·
  split at h
  ·rename_i r hr;cases h;exact .inl ⟨hcall xs,vT he hfs hev hF hs hv hr⟩
  ·cases h
 ·
  dsimp only at h;split at h
  case h_2=>cases h
  rename_i vs' hvs';split at h
  case h_2=>cases h
  rename_i u σ1 hent;split at h
  case h_2=>cases h
  rename_i u' hu';injection h with h;injection h with h1 h2;subst h1 h2
  have go:∀(g:Bool)(l:List Nat),aW (aR c.Z E.ty g) vs=some vs'->(g=true\/∀b∈vs.flatMap (nD c.Z),b∈l) ->
    sK P f xs c.w (jO E c u' (Ax.kill c.Z l)):=by
   intro g l hm hg;have hin:=Hv (g:=g) (l:=l) hs hm hv hg;have hcl:=vT he hfs hev hF (rX hs l) hin hent;refine .inl ⟨hcall xs,hcl.mono ?_⟩;rintro e w' ⟨x,rfl,d,rfl,hdσ,hx,hsd,hxv⟩;rw[<- hdσ]at hu';obtain⟨g1,g2,g3⟩:=pK hs hx hsd hxv hu';exact⟨x,rfl,(c.fW l).outer d.w,rfl,rfl,g1,g2,g3⟩
  split at hvs'
  ·exact go true [] hvs' (.inl rfl)
  ·exact go false _ hvs' (.inr λb hb=>hb)
end
def MP(E:Env)(ev:yQ)(dr:Fz)(ops:Array cd):List Nat->Fr->Sg->Option (Fr × Sg)
 | [],fr,Z=>some (fr,Z)
 |i::rest,fr,Z=>match ops[i]? with
  |none=>MP E ev dr ops rest fr Z
  |some o=>match bN E ev dr ops o fr Z with
   |some (fr,Z)=>MP E ev dr ops rest fr Z
   |none=>none
section
variable {P:ar}{E:Env}{ev:yQ}
theorem JP{c:Cx}{fr:Fr}{tmps:Array ο}(h:FR c fr tmps)(ops:Array cd)(j:Nat):Go.yielded ops tmps j=Ax.yielded ops fr j:=by
 unfold Go.yielded Ax.yielded;cases hd:(ops[j]?).bind (·.dst) with
 |none=>rfl
 |some d=>
  simp only[gh];cases hf:fr.get d with
  |none=>
   have:tmps[d]?=none:=by
    unfold Fr.get at hf;split at hf
    ·cases hf
    ·rename_i g;have:=Bg g;rw[h.1]at this;simp;omega
   rw[this]
  |some v=>
   obtain⟨x,hx,hr⟩:=h.2 d v hf;rw[hx];cases hr with
   |inl h=>cases h <;> rfl
   |_=>rfl
theorem CG{c:Cx}{fr:Fr}{tmps:Array ο}(h:FR c fr tmps)(ops:Array cd)(o:cd):Region.wanted o (Go.yielded ops tmps)=cE ops o fr:=by
 unfold Region.wanted cE;cases hg:o.guard with
 |none=>rfl
 |some p=>simp only[JP h]
theorem FR.put{c:Cx}{fr:Fr}{a:Act}(h:FR c fr a.tmps){v:V}{x:ο}(hv:VR c v x)(dst:Option Nat):FR c (cW fr dst v) (a.put dst x).tmps:=by
 cases dst with
 |none=>exact h
 |some d=>
  exact FR.set h hv d
theorem put_defers(a:Act)(dst:Option Nat)(x:ο):(a.put dst x).defers=a.defers:=by cases dst <;> rfl
theorem NU(he:cG P E){c:Cx}(hs:SR E c){fr:Fr}{a:Act}(hf:FR c fr a.tmps){t len:Nat}{parts:Array (Nat × χ)}{v:V}(h:Dz E fr t len parts.toList=some v) :
  gP E c ((Instr.buildSlice t len (parts.map λ(i,x)=>(i,a.eval x))).run P c.w) v c.Z:=by
 unfold Dz at h;split at h
 case h_2=>cases h
 rename_i e _ _ _ ps hi hps;split at h
 case h_2=>cases h
 rename_i i hei;split at h
 case isFalse=>cases h
 rename_i hle;split at h
 case h_2=>cases h
 rename_i cs hcs;split at h
 case isFalse=>cases h
 rename_i htag;cases h;have ht:=he.ty e i hei;obtain⟨d,hd,hkd⟩:=(he.ty t _ hi).kd;simp only[pI]at hkd;subst hkd;obtain⟨z,hz,hr,hzs⟩:=ht.zero;have hv:VR c i.zero z:=(hr _ _).vr
 have hbase:fH c (gG len i.zero.cells) (((Array.range (len*i.size)).map ((if len*i.size=0 then #[] else z.cells)[· % (if len*i.size=0 then #[] else z.cells).size]!))).toList:=by
  rw[yD _ _ hzs];exact zH hv.cells len
 have hp:PR c ps (parts.map λ(i,x)=>(i,a.eval x)).toList:=by simpa using pC hf hps
 obtain⟨arr,r1,r2,r3⟩:=tT (c:=c) _ hp hbase hcs;have hasz:arr.size=len*i.size:=by rw[r3];simp
 obtain⟨k1,k2⟩:=wP hs (w:={ c.w with heap:=c.w.heap.push (.cells arr e (0,0)) }) (by simp) (λk hk=>by simp[Array.getElem?_push,Nat.ne_of_lt hk]) rfl rfl rfl;refine⟨c.outer { c.w with heap:=c.w.heap.push (.cells arr e (0,0)) },.slice (some ⟨c.w.heap.size,0,none⟩) len len,?_,rfl,k1,k2,?_⟩
 ·unfold Instr.buildSlice;simp only[υ,ξ hd,ν,ht.size];rw[gf,an (by omega)];by_cases h0:len*i.size=0
  ·simp only[h0,bf]at r1 ⊢;simp only[υ,ψ,ν];rw[r1];simp[newRow,Cx.outer]
  ·simp only[h0,b9]at r1 ⊢;simp only[υ,ψ,hz,ν];rw[r1];simp[newRow,Cx.outer]
 ·refine .inl (.bV false _ true _ 0 len len i.size ⟨by simp[Cx.outer],λho=>?_,λ_ ha=>?_⟩ (C_ _ _ _).symm (OF _) (λ_=>rfl) (GI len 0 cs (by have:=r2.len;simp at this;omega) (.rD λj v hj=>?_)))
  ·have:=hs.vC (k:=c.w.heap.size) ho;omega
  ·have:=hs.jF _ ha;omega
  ·obtain⟨x,hx,hxr⟩:=r2.get j v hj;refine⟨x,?_,?_⟩
   ·simp only[fq]at hx
    rw[oA (arr:=arr) (t:=e) (fr:=(0,0)) (by
     show (c.w.heap.push _)[c.w.heap.size]?=_;simp)]
    simpa using hx
   ·have htv:cI false v=true:=eu.1 htag v (ag hj)
    have base:IR c.w (sub false c.bE) v x:=by
     cases hxr with
     |inl h=>exact Ph h htv λ_ _ h=>h
     |fn f a b xs ys ha hb=>
      cases a with
      |cons=>cases htv
      |nil=>cases b with
       |cons=>cases htv
       |nil=>cases ha;cases hb;exact .fn _
     |_=>cases htv
    exact base.mono (k1.wider.sub false)
theorem OO(he:cG P E){c:Cx}(hs:SR E c){fr:Fr}{a:Act}(hf:FR c fr a.tmps){args:Array χ}{ats:Array Nat}{ty:Nat}{consts:Array Bool}{v:V}(h:vY E fr c.Z args.toList ats=some v) :
  ∃(c':Cx) (y:ο),(Go.builtin .append ats ty consts (args.map a.eval)).run P c.w=.ok (.value y) c'.w/\c'.Z=c.Z/\Ext c c'/\SR E c'/\VR c' v y:=by
 unfold vY at h;split at h
 case h_2=>cases h
 rename_i x hx;split at h
 case h_2=>cases h
 rename_i vs hvs;split at h
 case h_2=>cases h
 rename_i u σ1 hb;have hin:=Hv (g:=true) (l:=[]) hs hvs (jJ hf hx) (.inl rfl);obtain⟨d,y,h1,h2,h3,h4,h5⟩:=xN he (rX hs []) (ty:=ty) (consts:=consts) (c:=c.inner (c.fW [])) hb hin;rw[<- h2]at h;obtain⟨g1,g2,g3⟩:=pK hs h3 h4 h5 h;refine⟨(c.fW []).outer d.w,y,?_,rfl,g1,g2,g3⟩;rw[show args.map a.eval=(List.map a.eval args.toList).toArray from by apply pn;simp];exact h1
theorem Df(he:cG P E)(hfs:f_ P E)(hev:Gi P E ev){c:Cx}(hs:SR E c){fr:Fr}{a:Act}(hf:FR c fr a.tmps){dr:Fz}{o:cd}{v:V}{σ':Sg}(h:lP E ev dr o.op fr c.Z=some (v,σ'))
  {next:Act->Γ->Prop}{Q:Exit->Act->Γ->Prop}(hn:∀x w',jO E c v σ' x w'->next (a.put o.dst x) w'):o.wp P a c.w next Q:=by
 have plain:aT E fr c.Z o.op=some (v,σ')->o.wp P a c.w next Q:=λh=>by
  obtain⟨c',x,h1,h2,h3,h4,h5⟩:=EC he hs hf h;unfold Oper.wp;rcases h1 with h1 | ⟨h1,rfl⟩
  ·rw[h1];exact hn _ _ ⟨c',rfl,h2,h3,h4,h5⟩
  ·rw[h1];exact hn _ _ ⟨c',rfl,h2,h3,h4,h5⟩
 unfold lP at h;split at h
 ·rename_i f args ats hop;split at h
  case h_2=>cases h
  rename_i k first cap l hk hl
  have hfv:=aM hf hk;obtain⟨xs,ys,hx,h1,h2⟩:=hfv.A_;have h3:=jJ hf hl;have hrun:=Jk he hfs hev hs ((h1.append h3).append h2) h
  have hex:(execOp a.eval o).run P c.w=(callFunc k (xs++List.map a.eval args.toList++ys).toArray).run P c.w:=by
   have e:xs.toArray++Array.map a.eval args++ys.toArray=(xs++List.map a.eval args.toList++ys).toArray:=by apply pn;simp
   simp only[execOp,hop,resolve,hx,Deferred.ofValue,invoke,υ,ψ,ν,e]
  unfold Oper.wp;rw[hex];rcases hrun with⟨r1,r2⟩ | ⟨x,w',r1,r2⟩
  ·rw[r1,Oper.upon_enter];refine r2.mono ?_;rintro e w' ⟨x,rfl,hb⟩;exact hn _ _ hb
  ·rw[r1];exact hn _ _ r2
 ·rename_i t len parts hop;split at h
  ·cases hl:Dz E fr t len parts.toList with
   |none=>rw[hl]at h;cases h
   |some u=>
    rw[hl]at h;injection h with h;injection h with e1 e2;subst e1 e2;obtain⟨c',x,h1,h2,h3,h4,h5⟩:=NU he hs hf hl;unfold Oper.wp
    have hex:(execOp a.eval o).run P c.w=.ok (.value x) c'.w:=by
     simp only[execOp,hop,υ,ψ];rw[h1];rfl
    rw[hex];exact hn _ _ ⟨c',rfl,h2,h3,h4,h5⟩
  ·rename_i hd;exact plain h
 ·rename_i args ats hop;split at h
  ·cases hl:vY E fr c.Z args.toList ats with
   |none=>rw[hl]at h;cases h
   |some u=>
    rw[hl]at h;injection h with h;injection h with e1 e2;subst e1 e2;obtain⟨c',x,h1,h2,h3,h4,h5⟩:=OO he hs hf hl (ty:=o.type) (consts:=args.map fun | .const _=>true | _=>false);unfold Oper.wp
    have hex:(execOp a.eval o).run P c.w=.ok (.value x) c'.w:=by
     simp only[execOp,hop,resolve,invoke,υ,ψ,ν];exact h1
    rw[hex];exact hn _ _ ⟨c',rfl,h2,h3,h4,h5⟩
  ·exact plain h
 ·exact plain h
theorem r_(he:cG P E)(hfs:f_ P E)(hev:Gi P E ev){ops:Array cd}{dr:Fz}:∀(l:List Nat) {c:Cx}{fr:Fr}{a:Act}{fr':Fr}{σ':Sg},SR E c->FR c fr a.tmps->a.defers=[] ->
  MP E ev dr ops l fr c.Z=some (fr',σ')->∀(c0:Cx),Ext c0 c->wpOps P ops (Post E c0 .normal fr' σ') l a c.w
 | [],c,fr,a,fr',σ',hs,hf,hd,h,c0,hx=>by
  simp only[MP]at h;injection h with h;injection h with h1 h2;subst h1 h2;exact⟨rfl,hd,c,rfl,rfl,hx,hs,hf⟩
 |i::l,c,fr,a,fr',σ',hs,hf,hd,h,c0,hx=>by
  simp only[MP]at h;simp only[wpOps];cases ho:ops[i]? with
  |none=>
   rw[ho]at h;exact r_ he hfs hev l hs hf hd h c0 hx
  |some o=>
   rw[ho]at h;dsimp only at h ⊢;rw[CG hf];split at h
   case h_2=>cases h
   rename_i fr1 σ1 hst;unfold bN at hst;simp only[AU]at hst;split at hst
   ·rename_i hw;rw[az hw]
    left
    split at hst
    case h_2=>cases hst
    rename_i v σ2 hop;injection hst with hst;injection hst with e1 e2;subst e1 e2;refine Df he hfs hev hs hf hop ?_;rintro x w' ⟨c',rfl,rfl,k1,k2,k3⟩;exact r_ he hfs hev l k2 (FR.put (FR.mono k1 hf) k3 o.dst) (by rw[put_defers];exact hd) h c0 (hx.trans k1)
   ·rename_i hw;rw[an hw];injection hst with hst;injection hst with e1 e2;subst e1 e2;exact r_ he hfs hev l hs (hf.put .undef o.dst) (by rw[put_defers];exact hd) h c0 hx
theorem F6{ops:Array cd}{dr:Fz}:∀(rest:List cd)(k:Nat)(fr:Fr)(Z:Sg),ops.toList.drop k=rest->gY E ev dr ops rest fr Z=MP E ev dr ops (List.range' k rest.length) fr Z
 | [],k,fr,Z,_=>rfl
 |o::rest,k,fr,Z,h=>by
  have ho:ops[k]?=some o:=by
   have:(ops.toList.drop k)[0]?=some o:=by rw[h];rfl
   simpa using this
  have hr:ops.toList.drop (k+1)=rest:=by
   have:=b8 List.tail h;simpa using this
  simp only[gY,IT,List.range'_succ,MP,ho];cases bN E ev dr ops o fr Z with
  |none=>rfl
  |some r=>exact F6 rest (k+1) _ _ hr
end
end
theorem pG{α:Type}{f:α->α->Bool}(hf:∀a b,f a b=true->a=b):∀{x y:List α},rL f x y=true->x=y
 | [],[],_=>rfl
 |a::x,b::y,h=>by
  simp only[rL,ak]at h;rw[hf a b h.1,pG hf h.2]
 | [],_::_,h=>by cases h
 |_::_,[],h=>by cases h
theorem LX:∀{a b:List Nat},seq a b=true->a=b
 | [],[],_=>rfl
 |x::a,y::b,h=>by
  simp only[C5,ak,af]at h;rw[h.1,LX h.2]
 | [],_::_,h=>by cases h
 |_::_,[],h=>by cases h
theorem Gs:∀(n:Nat) {u v:V},sO n u v=true->u=v
 |0,_,_,h=>by cases h
 |n+1,u,v,h=>by
  have ih:=λa b=>Gs n (u:=a) (v:=b);unfold sO at h;split at h <;> try rfl
  ·have:=eq_of_beq h;subst this;rfl
  ·simp only[ak,af]at h;rw[h.1,h.2]
  ·rw[LX h]
  ·simp only[ak,gp]at h;rw[h.1.1,h.2,pG (λa b h=>pG ih h) h.1.2]
  ·simp only[ak,gp]at h;rw[h.1,pG ih h.2]
  ·simp only[ak,gp]at h
   rw[h.1,pG (λa b h=>by
    simp only[ak]at h;exact Prod.ext (ih _ _ h.1) (ih _ _ h.2)) h.2]
  ·simp only[ak,af]at h;rw[h.1,h.2]
  ·simp only[ak,af]at h;rw[h.1.1,h.1.2,h.2]
  ·simp only[ak,af]at h;rw[h.1.1.1,h.1.1.2,h.1.2,h.2]
  ·simp only[af]at h;rw[h]
  ·simp only[ak,af]at h;rw[h.1.1,pG ih h.1.2,pG ih h.2]
  ·rw[pG ih h]
  ·rw[pG ih h]
  ·cases h
def JB(fr fr':Fr)(l:List Nat):Prop:=∀t∈l,fr.get t=fr'.get t
theorem qX{fr fr':Fr}{o:χ}{l:List χ}(h:JB fr fr' (tmpsOf l))(ho:o∈l):aS fr o=aS fr' o:=by
 cases o with
 |tmp t=>
  simp only[aS];refine h t ?_
  induction l with
  |nil=>cases ho
  |cons x l ih=>
   rcases IN.1 ho with rfl | ho'
   ·simp[tmpsOf]
   ·cases x with
    |tmp u=>simp only[tmpsOf,IN];exact .inr (ih (λt ht=>h t (by simp[tmpsOf,ht])) ho')
    |_=>exact ih h ho'
 |_=>rfl
theorem Af{fr fr':Fr}{l:List χ}(h:JB fr fr' (tmpsOf l)):∀{os:List χ},(∀o∈os,o∈l)->eJ fr os=eJ fr' os
 | [],_=>rfl
 |o::os,ho=>by
  simp only[eJ,qX h (ho o (by simp)),Af h (os:=os) (λx hx=>ho x (by simp[hx]))]
theorem Ae{fr fr':Fr}{l:List χ}(h:JB fr fr' (tmpsOf l)):∀{os:List (Nat × χ)},(∀o∈os,o.2∈l)->lX fr os=lX fr' os
 | [],_=>rfl
 |(i,o)::os,ho=>by
  simp only[lX,qX h (ho (i,o) (by simp)),Ae h (os:=os) (λx hx=>ho x (by simp[hx]))]
theorem Jc{fr fr':Fr}{l:List χ}(h:JB fr fr' (tmpsOf l)){o:Option χ}(ho:∀x,o=some x->x∈l):qK fr o=qK fr' o:=by
 cases o with
 |none=>rfl
 |some x=>simp only[qK,qX h (ho x rfl)]
theorem NO{E:Env}{ev:yQ}{dr:Fz}{op:Op}{fr fr':Fr}{Z:Sg}(h:JB fr fr' (tmpsOf op.operands.toList)):lP E ev dr op fr Z=lP E ev dr op fr' Z:=by
 have e1:∀{o:χ},o∈op.operands.toList->aS fr o=aS fr' o:=λho=>qX h ho;have es:∀{os:List χ},(∀o∈os,o∈op.operands.toList)->eJ fr os=eJ fr' os:=λho=>Af h ho;have ep:∀{os:List (Nat × χ)},(∀o∈os,o.2∈op.operands.toList)->lX fr os=lX fr' os:=λho=>Ae h ho;have ex:∀{o:Option χ},(∀x,o=some x->x∈op.operands.toList)->qK fr o=qK fr' o:=λho=>Jc h ho;cases op with
 |call cl=>
  obtain⟨callee,args,ats⟩:=cl;cases callee with
  |value f=>
   simp only[lP];rw[e1 (o:=f) (by simp[Op.operands,Call.operands]),es (os:=args.toList) (λo ho=>by simp[Op.operands,Call.operands];simp at ho;exact .inr ho)]
  |builtin b=>
   have e:=es (os:=args.toList) (λo ho=>by simp[Op.operands,Call.operands];simpa using ho);cases b <;> simp only[lP,aT,eN,vY,e]
  |invoke r nm=>rfl
 |build t ps=>
  simp only[lP,aT,rG];rw[ep (os:=ps.toList) (λo ho=>by simp only[Op.operands];simp;simp at ho;exact⟨_,ho⟩)]
 |buildSlice t len ps=>
  simp only[lP,aT,fL,Dz];rw[ep (os:=ps.toList) (λo ho=>by simp only[Op.operands];simp;simp at ho;exact⟨_,ho⟩)]
 |makeFunc f a b=>
  cases f with
  |func f=>
   simp only[lP,aT,jT];rw[es (os:=a.toList) (λo ho=>by simp[Op.operands];simp at ho;exact .inl ho),es (os:=b.toList) (λo ho=>by simp[Op.operands];simp at ho;exact .inr ho)]
  |_=>rfl
 |makeMap t r=>
  simp only[lP,aT,mV];rw[ex (o:=r) (λx hx=>by simp[Op.operands,hx])]
 |slice t x a b m=>
  simp only[lP,aT,tA];rw[e1 (o:=x) (by simp[Op.operands]),ex (o:=a) (λx hx=>by simp[Op.operands,hx]),ex (o:=b) (λx hx=>by simp[Op.operands,hx]),ex (o:=m) (λx hx=>by simp[Op.operands,hx])]
 |pick x y z=>simp only[lP,aT,kH];rw[e1 (o:=x) (by simp[Op.operands]),e1 (o:=y) (by simp[Op.operands]),e1 (o:=z) (by simp[Op.operands])]
 |mapUpdate t x y z=>simp only[lP,aT,dZ];rw[e1 (o:=x) (by simp[Op.operands]),e1 (o:=y) (by simp[Op.operands]),e1 (o:=z) (by simp[Op.operands])]
 |insert t x y z=>simp only[lP,aT,dZ];rw[e1 (o:=x) (by simp[Op.operands]),e1 (o:=y) (by simp[Op.operands]),e1 (o:=z) (by simp[Op.operands])]
 |store t x y=>simp only[lP,aT,kG];rw[e1 (o:=x) (by simp[Op.operands]),e1 (o:=y) (by simp[Op.operands])]
 |binOp b t x y q=>simp only[lP,aT,eY];rw[e1 (o:=x) (by simp[Op.operands]),e1 (o:=y) (by simp[Op.operands])]
 |makeSlice t x y=>simp only[lP,aT,kI];rw[e1 (o:=x) (by simp[Op.operands]),e1 (o:=y) (by simp[Op.operands])]
 |indexAddr t x y=>simp only[lP,aT,cB];rw[e1 (o:=x) (by simp[Op.operands]),e1 (o:=y) (by simp[Op.operands])]
 |index t x y=>simp only[lP,aT,rE];rw[e1 (o:=x) (by simp[Op.operands]),e1 (o:=y) (by simp[Op.operands])]
 |lookup t x y q=>simp only[lP,aT,eB];rw[e1 (o:=x) (by simp[Op.operands]),e1 (o:=y) (by simp[Op.operands])]
 |move x=>simp only[lP,aT];rw[e1 (o:=x) (by simp[Op.operands])]
 |assign x=>simp only[lP,aT];rw[e1 (o:=x) (by simp[Op.operands])]
 |box t x=>simp only[lP,aT,Iu];rw[e1 (o:=x) (by simp[Op.operands])]
 |range t x=>simp only[lP,aT,qA];rw[e1 (o:=x) (by simp[Op.operands])]
 |next x b=>cases b with
  |false=>rfl
  |true=>simp only[lP,aT,xG];rw[e1 (o:=x) (by simp[Op.operands])]
 |entry x=>simp only[lP,aT,AV];rw[e1 (o:=x) (by simp[Op.operands])]
 |load t x=>simp only[lP,aT,iS];rw[e1 (o:=x) (by simp[Op.operands])]
 |nilCheck x=>simp only[lP,aT,jS];rw[e1 (o:=x) (by simp[Op.operands])]
 |unOp b t x=>simp only[lP,aT,oQ];rw[e1 (o:=x) (by simp[Op.operands])]
 |convert s d x=>simp only[lP,aT,mW];rw[e1 (o:=x) (by simp[Op.operands])]
 |makeInterface t x=>simp only[lP,aT,eE];rw[e1 (o:=x) (by simp[Op.operands])]
 |fieldAddr t x f=>simp only[lP,aT,iK];rw[e1 (o:=x) (by simp[Op.operands])]
 |field t x f=>simp only[lP,aT,rF];rw[e1 (o:=x) (by simp[Op.operands])]
 |extract x i=>simp only[lP,aT,cZ];rw[e1 (o:=x) (by simp[Op.operands])]
 |_=>rfl
theorem Be{E:Env}{Z:Sg}{ats:Array Nat}{vs:List V}{v:V}{σ':Sg}(h:mi E Z .len ats vs=some (v,σ')):σ'=Z:=by
 cases vs with
 |nil=>cases h
 |cons x r=>
  cases r with
  |cons=>cases h
  |nil=>
   simp only[mi]at h
   repeat' (split at h)
   all_goals first
    |(injection h with h;injection h with _ h;exact h.symm)
    |cases h
theorem yK{E:Env}{Z:Sg}{ats:Array Nat}{vs:List V}{v:V}{σ':Sg}(h:mi E Z .unsafeSliceData ats vs=some (v,σ')):σ'=Z:=by
 unfold mi at h;split at h <;> try contradiction
 ·split at h
  ·cases h
  ·injection h with h;injection h with _ h;exact h.symm
 ·injection h with h;injection h with _ h;exact h.symm
theorem tY{E:Env}{mx:Bool}{Z σ':Sg}{ats:Array Nat}{vs:List V}{v:V}(h:mi E Z (if mx then .max else .min) ats vs=some (v,σ')):σ'=Z/\∀Y:Sg,mi E Y (if mx then .max else .min) ats vs=some (v,Y):=by
 cases vs with
 |nil=>cases mx <;> cases h
 |cons x r=>
  cases x with
  |int k a=>
   cases mx <;>
   ·simp only[mi,bf,b9,ai]at h ⊢;split at h
    ·injection h with h;injection h with h1 h2;subst h1 h2;exact⟨rfl,λ_=>rfl⟩
    ·cases h
  |_=>cases mx <;> cases h
theorem qC{α:Type}{o:Option α}{Z:Sg}{r:α × Sg}(h:o.map (·,Z)=some r):r.2=Z/\∀Y:Sg,o.map (·,Y)=some (r.1,Y):=by
 cases o with
 |none=>cases h
 |some x=>cases h;exact⟨rfl,λ_=>rfl⟩
theorem BU{E:Env}{ev:yQ}{f:Nat}{vs:List V}{Z σ':Sg}{v:V}(h0:E.hspec f=none)(h1:(E.spec f).isSome=true\/(E.spec f=none/\E.mode f=.eW))(h:iH E ev f vs Z=some (v,σ')):σ'=Z:=by
 unfold iH at h;rw[h0]at h;dsimp only at h;rcases h1 with h1 | ⟨h1,h2⟩
 ·obtain⟨s,hs⟩:=ji.1 h1;rw[hs]at h;dsimp only at h
  repeat' (split at h)
  all_goals first
   |(injection h with h;injection h with _ h;exact h.symm)
   |cases h
 ·rw[h1,h2]at h;dsimp only at h
  repeat' (split at h)
  all_goals first
   |(injection h with h;injection h with _ h;exact h.symm)
   |(exfalso;apply_assumption;rfl)
   |(cases h;done)
theorem rR{E:Env}{ev:yQ}{frz:Fz}{op:Op}{fr:Fr}{Z σ':Sg}{v:V}(hw:(effect E frz op).2=false)(h:lP E ev frz op fr Z=some (v,σ')):σ'=Z:=by
 cases op with
 |call cl=>
  obtain⟨callee,args,ats⟩:=cl;cases callee with
  |value f=>
   cases f with
   |func f=>
    simp only[lP,aS]at h;split at h
    case h_2=>cases h
    rename_i k first cap l hk hl
    injection hk with hk;injection hk with e1 e2 e3;subst e1 e2 e3;simp only[effect]at hw;split at hw
    ·rename_i s h1 h2;exact BU h1 (.inl (by rw[h2];rfl)) h
    ·rename_i h1 h2 h3;exact BU h1 (.inr ⟨h2,h3⟩) h
    ·cases hw
   |_=>cases hw
  |builtin b=>
   cases b with
   |len=>
    simp only[lP,aT,eN]at h;split at h
    case h_2=>cases h
    exact Be h
   |unsafeSliceData=>
    simp only[lP,aT,eN]at h;split at h
    case h_2=>cases h
    exact yK h
   |min=>
    simp only[lP,aT,eN]at h;split at h
    case h_2=>cases h
    exact(tY (mx:=false) h).1
   |max=>
    simp only[lP,aT,eN]at h;split at h
    case h_2=>cases h
    exact(tY (mx:=true) h).1
   |append=>
    cases frz with
    |app=>
     simp only[lP,Fz.apps,bf]at h;exact(qC h).1
    |_=>cases hw
   |_=>cases hw
  |invoke r nm=>cases h
 |buildSlice t len ps=>
  simp only[lP]at h;cases frz with
  |no=>cases hw
  |lit=>exact(qC h).1
  |app=>exact(qC h).1
 |makeFunc f a b=>
  cases f with
  |func f=>
   simp only[lP,aT,jT]at h
   repeat' (split at h)
   all_goals first
    |(injection h with h;injection h with _ h;exact h.symm)
    |cases h
  |_=>cases h
 |move | assign | pick | build | load | nilCheck | binOp | unOp | convert | makeInterface | slice | fieldAddr | field | indexAddr | index | lookup | extract=>
  simp only[lP,aT,kH,rG,iS,jS,eY,oQ,mW,eE,tA,iK,rF,cB,rE,eB,cZ]at h
  repeat' (split at h)
  all_goals first
   |(injection h with h;injection h with _ h;exact h.symm)
   |exact(qC h).1
   |cases h
 |_=>cases hw
theorem NN{E:Env}{ev:yQ}{frz:Fz}{op:Op}{fr:Fr}{Z σ':Sg}{v:V}(hr:(effect E frz op).1=false)(hw:(effect E frz op).2=false)(h:lP E ev frz op fr Z=some (v,σ'))(Y:Sg):lP E ev frz op fr Y=some (v,Y):=by
 cases op with
 |call cl=>
  obtain⟨callee,args,ats⟩:=cl;cases callee with
  |value f=>
   cases f with
   |func f=>
    simp only[effect]at hr;split at hr <;> cases hr
   |_=>cases hr
  |builtin b=>
   cases b with
   |min=>
    simp only[lP,aT,eN]at h ⊢;split at h
    case h_2=>cases h
    exact(tY (mx:=false) h).2 Y
   |max=>
    simp only[lP,aT,eN]at h ⊢;split at h
    case h_2=>cases h
    exact(tY (mx:=true) h).2 Y
   |_=>cases hr
  |invoke r nm=>cases h
 |buildSlice t len ps=>
  simp only[lP]at h ⊢;cases frz with
  |no=>cases hw
  |lit=>exact(qC h).2 Y
  |app=>exact(qC h).2 Y
 |makeFunc f a b=>
  cases f with
  |func f=>
   simp only[lP,aT,jT]at h ⊢
   repeat' (split at h)
   all_goals first
    |(injection h with h;injection h with h _;subst h;rfl)
    |cases h
  |_=>cases h
 |move | assign | pick | build | nilCheck | binOp | unOp | makeInterface | fieldAddr | field | indexAddr | index | extract=>
  simp only[lP,aT,kH,rG,jS,eY,oQ,eE,iK,rF,cB,rE,cZ]at h ⊢
  repeat' (split at h)
  all_goals first
   |(injection h with h;injection h with h _;subst h;first | rfl | (split <;> first | rfl | contradiction))
   |exact(qC h).2 Y
   |cases h
 |_=>cases hr
section
theorem DU(p:Nat->Prop)[DecidablePred p](j:Nat):∀i,j<=i->(∀k,j<=k->k<i->¬ p k)\/∃a,j<=a/\a<i/\p a/\∀k,j<=k->k<a->¬ p k:=by
 intro i
 induction i with
 |zero=>intro h;exact .inl λk _ hk=>by omega
 |succ i ih=>
  intro h;rcases cr i j with hj | hj
  ·exact .inl λk h1 h2=>by omega
  ·rcases ih hj with h' | ⟨a,h1,h2,h3,h4⟩
   ·by_cases hp:p i
    ·exact .inr ⟨i,hj,by omega,hp,h'⟩
    ·refine .inl λk h1 h2=>?_;rcases cr k i with hk | hk
     ·exact h' k h1 hk
     ·have:k=i:=by omega
      subst this;exact hp
   ·exact .inr ⟨a,h1,by omega,h3,h4⟩
theorem TG(p:Nat->Prop)[DecidablePred p](j:Nat):∀i,j<=i->(∀k,j<=k->k<i->¬ p k)\/∃a,j<=a/\a<i/\p a/\∀k,a<k->k<i->¬ p k:=by
 intro i
 induction i with
 |zero=>intro h;exact .inl λk _ hk=>by omega
 |succ i ih=>
  intro h;rcases cr i j with hj | hj
  ·exact .inl λk h1 h2=>by omega
  ·by_cases hp:p i
   ·exact .inr ⟨i,hj,by omega,hp,λk h1 h2=>by omega⟩
   ·rcases ih hj with h' | ⟨a,h1,h2,h3,h4⟩
    ·refine .inl λk h1 h2=>?_;rcases cr k i with hk | hk
     ·exact h' k h1 hk
     ·have:k=i:=by omega
      subst this;exact hp
    ·refine .inr ⟨a,h1,by omega,h3,λk h1 h2=>?_⟩;rcases cr k i with hk | hk
     ·exact h4 k h1 hk
     ·have:k=i:=by omega
      subst this;exact hp
section
variable {E:Env}{ev:yQ}{frz:Fz}{ops:Array cd}{T:Nat->Fr × Sg}{pre:Nat->Nat->Bool}
theorem E2{o:cd}{fr:Fr}{Z:Sg}{q:Fr × Sg}(h:bN E ev frz ops o fr Z=some q):∃v,q.1=cW fr o.dst v:=by
 unfold bN at h;simp only[AU]at h;split at h
 ·split at h
  ·cases h;exact⟨_,rfl⟩
  ·cases h
 ·cases h;exact⟨_,rfl⟩
theorem Il(fr:Fr)(d:Option Nat)(v:V):(cW fr d v).n=fr.n:=by cases d <;> simp[cW,Fr.a_]
theorem Dc{fr:Fr}{d:Option Nat}{v:V}{t:Nat}(h:d≠some t):(cW fr d v).get t=fr.get t:=by
 cases d with
 |none=>rfl
 |some d=>
  simp only[cW];rw[Fr.aJ,an (λe=>h (by rw[e.1]))]
theorem HS{o:cd}{fr:Fr}{Z:Sg}{q:Fr × Sg}(hw:(effect E frz o.op).2=false)(h:bN E ev frz ops o fr Z=some q):q.2=Z:=by
 unfold bN at h;simp only[AU]at h;split at h
 ·split at h
  ·rename_i v σ' hv;cases h;exact rR hw hv
  ·cases h
 ·cases h;rfl
structure Dr (E:Env) (ev:yQ) (frz:Fz) (ops:Array cd) (T:Nat->Fr × Sg) (pre:Nat->Nat->Bool):Prop where
 step:∀i o,ops[i]?=some o->bN E ev frz ops o (T i).1 (T i).2=some (T (i+1))
 edge:∀i o,ops[i]?=some o->∀k,pre i k=true->∃e∈o.after.toList,cY .any e=true/\(k=e.on\/pre e.on k=true)
 lt:∀i o,ops[i]?=some o->∀e∈o.after.toList,cY .any e=true->e.on<i
 pair:∀i j x y,i<j->ops[i]?=some x->ops[j]?=some y->pre j i=true \/
  (pZ E frz ops x y=true/\((effect E frz x.op).2=true->(effect E frz y.op).1=true->again E ev frz ops y (T j).1 (T j).2 (T i).2=true) /\
   ((effect E frz x.op).1=true->(effect E frz y.op).2=true->again E ev frz ops x (T i).1 (T i).2 (T (j+1)).2=true))
structure Inv (E:Env) (frz:Fz) (ops:Array cd) (T:Nat->Fr × Sg) (pre:Nat->Nat->Bool) (L:Array Bool) (fr:Fr) (Z:Sg):Prop where
 size:L.size=ops.size
 down:∀i k,L[i]?=some true->pre i k=true->L[k]?=some true
 len:fr.n=(T 0).1.n
 fr:∀t j,j<=ops.size->(∀k o,ops[k]?=some o->o.dst=some t->(k<j ↔ L[k]?=some true))->fr.get t=(T j).1.get t
 Z:∀j,j<=ops.size->(∀k o,ops[k]?=some o->(effect E frz o.op).2=true->(k<j ↔ L[k]?=some true))->Z=(T j).2
theorem wK{k j:Nat}(h:k<j)(hj:j<=ops.size):∃o,ops[k]?=some o:=⟨ops[k],gq (by omega)⟩
theorem L_{k:Nat}{o:cd}(h:ops[k]?=some o):k<ops.size:=by
 rcases cr k ops.size with g | g
 ·exact g
 ·rw[Array.getElem?_eq_none g]at h;cases h
theorem Dr.len(h:Dr E ev frz ops T pre):∀j,j<=ops.size->(T j).1.n=(T 0).1.n
 |0,_=>rfl
 |j+1,hj=>by
  obtain⟨o,ho⟩:=wK (nq j) hj;obtain⟨v,hv⟩:=E2 (h.step j o ho);rw[hv,Il];exact h.len j (by omega)
theorem Dr.L8(h : Dr E ev frz ops T pre){t a : Nat} : ∀ b, a <= b -> b <= ops.size -> (∀ k o, a <= k -> k < b -> ops[k]? = some o -> o.dst ≠ some t) -> (T a).1.get t = (T b).1.get t := by
  intro b
  induction b with
  | zero => intro h1 _ _; have : a = 0 := by omega
            subst this; rfl
  | succ b ih =>
    intro h1 h2 h3;rcases cr b a with hb | hb
    · have : a = b + 1 := by omega
      subst this; rfl
    · rw [ih hb (by omega) fun k o g1 g2 => h3 k o g1 (by omega)];obtain ⟨o, ho⟩ := wK (nq b) h2;obtain ⟨v, hv⟩ := E2 (h.step b o ho);rw [hv, Dc (h3 b o hb (by omega) ho)]
theorem Dr.AP(h : Dr E ev frz ops T pre){a : Nat} : ∀ b, a <= b -> b <= ops.size -> (∀ k o, a <= k -> k < b -> ops[k]? = some o -> (effect E frz o.op).2 = false) -> (T a).2 = (T b).2 := by
  intro b
  induction b with
  | zero => intro h1 _ _; have : a = 0 := by omega
            subst this; rfl
  | succ b ih =>
    intro h1 h2 h3;rcases cr b a with hb | hb
    · have : a = b + 1 := by omega
      subst this; rfl
    · rw [ih hb (by omega) fun k o g1 g2 => h3 k o g1 (by omega)];obtain ⟨o, ho⟩ := wK (nq b) h2;exact(HS (h3 b o hb (by omega) ho) (h.step b o ho)).symm
theorem HH{fr fr':Fr}{o:cd}(h:JB fr fr' (qV ops o)):cE ops o fr=cE ops o fr':=by
 unfold cE;cases hg:o.guard with
 |none=>rfl
 |some p=>
  obtain⟨j,w⟩:=p;dsimp only
  have:yielded ops fr j=yielded ops fr' j:=by
   unfold yielded;cases hd:(ops[j]?).bind (·.dst) with
   |none=>rfl
   |some d=>
    simp only[gh];rw[h d (by simp[qV,hg,hd])]
  rw[this]
theorem wI{x y:cd}(h:pZ E frz ops x y=true)(h1:(effect E frz x.op).2=true)(h2:(effect E frz y.op).2=true):False:=by
 simp[pZ,h1,h2]at h
theorem NJ{x y:cd}{t:Nat}(h:pZ E frz ops x y=true)(h1:x.dst=some t)(h2:t∈qV ops y):False:=by
 simp[pZ,h1,h2]at h
theorem NK{x y:cd}{t:Nat}(h:pZ E frz ops x y=true)(h1:x.dst=some t)(h2:y.dst=some t):False:=by
 simp[pZ,h1,h2]at h
theorem NI{x y:cd}{t:Nat}(h:pZ E frz ops x y=true)(h1:y.dst=some t)(h2:t∈qV ops x):False:=by
 simp[pZ,h1,h2]at h
theorem Inv.cut(h:Dr E ev frz ops T pre){L:Array Bool}{fr:Fr}{Z:Sg}(hi:Inv E frz ops T pre L fr Z):∀m,m<=ops.size->∃j,j<=m/\∀k o,k<m->ops[k]?=some o->(effect E frz o.op).2=true->(k<j ↔ L[k]?=some true)
 |0,_=>⟨0,OF _,λk o hk=>by omega⟩
 |m+1,hm=>by
  obtain⟨j,hj,hc⟩:=hi.cut h m (by omega);obtain⟨o,ho⟩:=wK (nq m) hm;by_cases hw:(effect E frz o.op).2=true/\L[m]?=some true
  ·refine⟨m+1,OF _,λk ok hk hok hwk=>⟨λ_=>?_,λ_=>hk⟩⟩;rcases cr k m with hkm | hkm
   ·rcases h.pair k m ok o hkm hok ho with hp | ⟨hp,_⟩
    ·exact hi.down m k hw.2 hp
    ·exact(wI hp hwk hw.1).elim
   ·have:k=m:=by omega
    subst this;exact hw.2
  ·refine⟨j,by omega,λk ok hk hok hwk=>?_⟩;rcases cr k m with hkm | hkm
   ·exact hc k ok hkm hok hwk
   ·have:k=m:=by omega
    subst this;rw[ho]at hok;cases hok;exact⟨λh=>by omega,λh=>(hw ⟨hwk,h⟩).elim⟩
theorem Jy{o:cd}{fr:Fr}{Z Y:Sg}{v:V}{σ1:Sg}(hw:(effect E frz o.op).2=false)(h:again E ev frz ops o fr Z Y=true)(hwt:cE ops o fr=true)(hv:lP E ev frz o.op fr Z=some (v,σ1)):lP E ev frz o.op fr Y=some (v,Y):=by
 unfold again at h;simp only[AU]at h;rw[hwt,hv]at h;simp only[dm,Bool.false_or]at h;cases hτ:lP E ev frz o.op fr Y with
 |none=>rw[hτ]at h;cases h
 |some q=>
  obtain⟨u,τ1⟩:=q;rw[hτ]at h;dsimp only at h;rw[<- Gs 12 h,rR hw hτ]
theorem Inv.step(h:Dr E ev frz ops T pre){L:Array Bool}{fr:Fr}{Z:Sg}(hi:Inv E frz ops T pre L fr Z){i:Nat}{o:cd}(ho:ops[i]?=some o)(hL:L[i]?=some false)
  (hready:∀e∈o.after.toList,cY .any e=true->L[e.on]?=some true):∃fr' σ',bN E ev frz ops o fr Z=some (fr',σ')/\Inv E frz ops T pre (L.setIfInBounds i true) fr' σ':=by
 have hin:=L_ ho
 have hpre:∀k,pre i k=true->L[k]?=some true:=λk hk=>by
  obtain⟨e,h1,h2,h3⟩:=h.edge i o ho k hk;rcases h3 with rfl | h3
  ·exact hready e h1 h2
  ·exact hi.down e.on k (hready e h1 h2) h3
 have hno:∀k,L[k]?=some true->pre k i=true->False:=λk h1 h2=>by
  have:=hi.down k i h1 h2;rw[hL]at this;cases this
 have hne:∀k,L[k]?=some true->k≠i:=λk h1 e=>by subst e;rw[hL]at h1;cases h1
 have hnames:JB fr (T i).1 (qV ops o):=λt ht=>by
  refine hi.fr t i (by omega) λk ok hok hd=>⟨λhk=>?_,λhk=>?_⟩
  ·rcases h.pair k i ok o hk hok ho with hp | ⟨hp,_⟩
   ·exact hpre k hp
   ·exact(NJ hp hd ht).elim
  ·rcases jn k i with hki | hki | hki
   ·exact hki
   ·exact(hne k hk hki).elim
   ·rcases h.pair i k o ok hki ho hok with hp | ⟨hp,_⟩
    ·exact(hno k hk hp).elim
    ·exact(NI hp hd ht).elim
 have hops:JB fr (T i).1 (tmpsOf o.op.operands.toList):=λt ht=>hnames t (by simp[qV,ht]);have hstep:=h.step i o ho
 have hval:∃v σ',bN E ev frz ops o fr Z=some (cW fr o.dst v,σ')/\(T (i+1)).1=cW (T i).1 o.dst v/\((effect E frz o.op).2=true->σ'=(T (i+1)).2)/\((effect E frz o.op).2=false->σ'=Z):=by
  have hσ:(effect E frz o.op).2=true->Z=(T i).2:=λhw=>by
   refine hi.Z i (by omega) λk ok hok hwk=>⟨λhk=>?_,λhk=>?_⟩
   ·rcases h.pair k i ok o hk hok ho with hp | ⟨hp,_⟩
    ·exact hpre k hp
    ·exact(wI hp hwk hw).elim
   ·rcases jn k i with hki | hki | hki
    ·exact hki
    ·exact(hne k hk hki).elim
    ·rcases h.pair i k o ok hki ho hok with hp | ⟨hp,_⟩
     ·exact(hno k hk hp).elim
     ·exact(wI hp hw hwk).elim
  unfold bN at hstep ⊢;simp only[AU]at hstep ⊢;rw[HH hnames];by_cases hwt:cE ops o (T i).1=true
  ·rw[az hwt]at hstep ⊢;split at hstep
   case h_2=>cases hstep
   rename_i v σ1 hv;injection hstep with hstep;have e1:(T (i+1)).1=cW (T i).1 o.dst v:=by rw[<- hstep]
   have e2:(T (i+1)).2=σ1:=by rw[<- hstep]
   rw[NO hops];cases hw:(effect E frz o.op).2 with
   |true=>
    rw[hσ hw,hv];exact⟨v,σ1,rfl,e1,λ_=>e2.symm,λx=>by cases x⟩
   |false=>
    have main:lP E ev frz o.op (T i).1 Z=some (v,Z):=by
     cases hr:(effect E frz o.op).1 with
     |false=>exact NN hr hw hv Z
     |true=>
      obtain⟨j,hj,hc⟩:=hi.cut h ops.size (OF _);have hc':∀k ok,ops[k]?=some ok->(effect E frz ok.op).2=true->(k<j ↔ L[k]?=some true):=λk ok hok=>hc k ok (L_ hok) hok;have hσj:=hi.Z j hj hc';rw[hσj];rcases jn j i with hji | rfl | hji
      ·
       rcases DU (λk=>∃ok,ops[k]?=some ok/\(effect E frz ok.op).2=true) (j:=j) i (by omega) with hn | ⟨a,a1,a2,⟨oa,a3,a4⟩,a5⟩
       ·have e:=h.AP i (by omega) (by omega) (a:=j) λk ok k1 k2 hok=>by
         cases hx:(effect E frz ok.op).2 with
         |false=>rfl
         |true=>exact(hn k k1 k2 ⟨ok,hok,hx⟩).elim
        rw[e];have:=rR hw hv;rw[this]at hv;exact hv
       ·have e:=h.AP a a1 (by omega) (a:=j) λk ok k1 k2 hok=>by
         cases hx:(effect E frz ok.op).2 with
         |false=>rfl
         |true=>exact(a5 k k1 k2 ⟨ok,hok,hx⟩).elim
        rw[e];rcases h.pair a i oa o a2 a3 ho with hp | ⟨_,hp,_⟩
        ·have:=(hc' a oa a3 a4).2 (hpre a hp);omega
        ·exact Jy hw (hp a4 hr) hwt hv
      ·have:=rR hw hv;rw[this]at hv;exact hv
      ·rcases TG (λk=>∃ok,ops[k]?=some ok/\(effect E frz ok.op).2=true) (j:=i) j (by omega) with hn | ⟨b,b1,b2,⟨ob,b3,b4⟩,b5⟩
       ·have e:=h.AP j (by omega) hj (a:=i) λk ok k1 k2 hok=>by
         cases hx:(effect E frz ok.op).2 with
         |false=>rfl
         |true=>exact(hn k k1 k2 ⟨ok,hok,hx⟩).elim
        rw[<- e];have:=rR hw hv;rw[this]at hv;exact hv
       ·have hbi:i<b:=by
         rcases cr i b with g | g
         ·exact g
         ·have:b=i:=by omega
          subst this;rw[ho]at b3;cases b3;rw[hw]at b4;cases b4
        have e:=h.AP j (by omega) hj (a:=b+1) λk ok k1 k2 hok=>by
         cases hx:(effect E frz ok.op).2 with
         |false=>rfl
         |true=>exact(b5 k (by omega) k2 ⟨ok,hok,hx⟩).elim
        rw[<- e];rcases h.pair i b o ob hbi ho b3 with hp | ⟨_,_,hp⟩
        ·exact(hno b ((hc' b ob b3 b4).1 b2) hp).elim
        ·exact Jy hw (hp hr b4) hwt hv
    rw[main];exact⟨v,Z,rfl,e1,λx=>(by cases x),λ_=>rfl⟩
  ·rw[an hwt]at hstep ⊢;injection hstep with hstep;have e1:(T (i+1)).1=cW (T i).1 o.dst .undef:=by rw[<- hstep]
   have e2:(T (i+1)).2=(T i).2:=by rw[<- hstep]
   exact⟨.undef,Z,rfl,e1,λhw=>by rw[e2];exact hσ hw,λ_=>rfl⟩
 obtain⟨v,σ',hs,hT,hσ1,hσ2⟩:=hval
 have hset:∀k,(L.setIfInBounds i true)[k]?=if k=i then some true else L[k]?:=λk=>by
  rw[iz];by_cases e:i=k
  ·subst e;have:i<L.size:=by rw[hi.size];exact hin
   simp[this]
  ·simp[e,Ne.symm e]
 refine⟨_,_,hs,⟨by simp[hi.size],?_,by rw[Il];exact hi.len,?_,?_⟩⟩
 ·intro a k ha hk;rw[hset]at ha ⊢;split at ha
  ·rename_i e;subst e;split
   ·rfl
   ·exact hpre k hk
  ·split
   ·rfl
   ·exact hi.down a k ha hk
 ·intro t j hj hc;by_cases hd:o.dst=some t
  ·have hij:i<j:=(hc i o ho hd).2 (by rw[hset];simp);rw[<- h.L8 j (a:=i+1) (by omega) hj λk ok k1 k2 hok hdk=>?_]
   ·rw[hT,hd];have hl:fr.n=(T i).1.n:=by rw[hi.len,h.len i (by omega)]
    simp only[cW];rw[Fr.aJ,Fr.aJ,hl];by_cases e:t=t/\t<(T i).1.n
    ·rw[az e,az e]
    ·rw[an e,an e];have:¬ t<(T i).1.n:=λx=>e ⟨rfl,x⟩
     have n1:∀f:Fr,¬ t<f.n->f.get t=none:=λf hf=>by
      cases hg:f.get t with
      |none=>rfl
      |some u=>exact(hf (Fr.get_some hg)).elim
     rw[n1 _ (by rw[hl];exact this),n1 _ this]
   ·have hLk:=(hc k ok hok hdk).1 k2;rw[hset,an (by omega)]at hLk;rcases h.pair i k o ok (by omega) ho hok with hp | ⟨hp,_⟩
    ·exact hno k hLk hp
    ·exact NK hp hd hdk
  ·rw[Dc hd];refine hi.fr t j hj λk ok hok hdk=>?_
   have hki:k≠i:=λe=>by
    subst e;rw[ho]at hok;cases hok;exact hd hdk
   rw[hc k ok hok hdk,hset,an hki]
 ·intro j hj hc;cases hw:(effect E frz o.op).2 with
  |true=>
   rw[hσ1 hw];have hij:i<j:=(hc i o ho hw).2 (by rw[hset];simp);refine h.AP j (a:=i+1) (by omega) hj λk ok k1 k2 hok=>?_;cases hwk:(effect E frz ok.op).2 with
   |false=>rfl
   |true=>
    have hLk:=(hc k ok hok hwk).1 k2;rw[hset,an (by omega)]at hLk;rcases h.pair i k o ok (by omega) ho hok with hp | ⟨hp,_⟩
    ·exact(hno k hLk hp).elim
    ·exact(wI hp hw hwk).elim
  |false=>
   rw[hσ2 hw];refine hi.Z j hj λk ok hok hwk=>?_
   have hki:k≠i:=λe=>by
    subst e;rw[ho]at hok;cases hok;rw[hw]at hwk;cases hwk
   rw[hc k ok hok hwk,hset,an hki]
end
end
end Go.Ax
end
