/- A part of the executor of abstract values, its soundness over the model, and what functions of the program reckon. Conditions: those stated at each theorem. -/
import Derived.KernelRfl
import Derived.Test.YtohlgneeifkikaaGreatDoorMAO
set_option maxRecDepth 1000000
set_option maxHeartbeats 0
set_option linter.unusedVariables false
noncomputable section
namespace Go.BI
open Go Go.RowKit Go.Proofs
structure Wld(w:World)(bT oT N W bL oL nL cL bP oP nP cP:Nat):Prop where
 c0:w.cell? ⟨bT,oT,none⟩=some (.int .i64 N)
 c1:w.cell? ⟨bT,oT+1,none⟩=some (.int .i64 W)
 c2:w.cell? ⟨bT,oT+2,none⟩=some (.slice (some ⟨bL,oL,none⟩) nL cL)
 c3:w.cell? ⟨bT,oT+3,none⟩=some (.slice (some ⟨bP,oP,none⟩) nP cP)
 hP:nP=N*N
 ltT:bT<w.heap.size
 ltL:bL<w.heap.size
 ltP:bP<w.heap.size
 N0:0<N
 N1:N<=10000
 W1:W<=1000
 L1:nL<=10000
theorem Wld.below{w w':World}{bT oT N W bL oL nL cL bP oP nP cP:Nat}(h:Wld w bT oT N W bL oL nL cL bP oP nP cP)(hb:RowKit.Below w.heap.size w w'):Wld w' bT oT N W bL oL nL cL bP oP nP cP:=
 {c0:=(hb.cell (p:=⟨bT,oT,none⟩) h.ltT).trans h.c0,c1:=(hb.cell (p:=⟨bT,oT+1,none⟩) h.ltT).trans h.c1,c2:=(hb.cell (p:=⟨bT,oT+2,none⟩) h.ltT).trans h.c2,c3:=(hb.cell (p:=⟨bT,oT+3,none⟩) h.ltT).trans h.c3,
  ltT:=Nat.lt_of_lt_of_le h.ltT hb.size,ltL:=Nat.lt_of_lt_of_le h.ltL hb.size,ltP:=Nat.lt_of_lt_of_le h.ltP hb.size,N0:=h.N0,N1:=h.N1,W1:=h.W1,L1:=h.L1,hP:=h.hP}
theorem y4{bT oT N W bL oL nL cL bP oP nP cP:Nat}{w:World}(h:Wld w bT oT N W bL oL nL cL bP oP nP cP):Calls Tryz.prog 117 #[.pointer (some ⟨bT,oT,none⟩)] w λe w'=>e=.returned (.int .i64 (((W+1)*nL:Nat):Int))/\RowKit.Below w.heap.size w w':=by
 have c1:=h.c1;have c2:=h.c2;have h1:IntKind.i64.wrap ((W:Int)+1)=(W:Int)+1:=by have:=h.W1;rw[IntKind.wrap_i64];omega
 have h2:IntKind.i64.wrap (((W:Int)+1)*(nL:Int))=(((W+1)*nL:Nat):Int):=by have:=h.W1;have:=h.L1;have h3:(W+1)*nL<=1001*10000:=Nat.mul_le_mul (by omega) (by omega);rw[show((W:Int)+1)*(nL:Int)=(((W+1)*nL:Nat):Int) by push_cast;rfl,IntKind.wrap_i64];omega
 go_enter Tryz.func117,Tryz.ntmps117;go_wp2_with fail
 go_region_with (fail)
 all_goals
  go_wp2;go_ret;exact⟨rfl,(RowKit.Below.refl _ _).drew⟩
theorem dM{bT oT N W bL oL nL cL bP oP nP cP:Nat}{w:World}(h:Wld w bT oT N W bL oL nL cL bP oP nP cP)(x:Int)(_:-9223372036854775808<=x)(_:x<9223372036854775808):Calls Tryz.prog 205 #[.pointer (some ⟨bT,oT,none⟩),.int .i64 x] w λe w'=>e=.returned (.int .i64 (x%(N:Int)))/\w'=w:=by
 have c0:=h.c0;have hN0:=h.N0;have hN1:=h.N1;have h0:((N:Int)==0)=false:=by simp;omega
 by_cases hx:x.tmod N<0
 .have e:IntKind.i64.wrap (x.tmod N+N)=x%(N:Int):=by
   have t:=Int.tmod_eq_emod (a:=x) (b:=(N:Int));have t1:=Int.emod_nonneg x (b:=(N:Int)) (by omega);have t2:=Int.emod_lt_of_pos x (b:=(N:Int)) (by omega);rw[IntKind.wrap_i64];split at t<;>simp at t<;>omega
  go_enter Tryz.func205,Tryz.ntmps205;go_wp2;go_ret;exact⟨rfl,rfl⟩
 .have e:x.tmod N=x%(N:Int):=by
   have t:=Int.tmod_eq_emod (a:=x) (b:=(N:Int));have t1:=Int.emod_nonneg x (b:=(N:Int)) (by omega);have t2:=Int.emod_lt_of_pos x (b:=(N:Int)) (by omega);split at t<;>simp at t<;>omega
  go_enter Tryz.func205,Tryz.ntmps205;go_wp2;go_ret;exact⟨rfl,rfl⟩
def FJ(N:Nat)(u v:Int):Nat:=(u%(N:Int)).toNat*N+(v%(N:Int)).toNat
theorem y5{bT oT N W bL oL nL cL bP oP nP cP:Nat}{w:World}(h:Wld w bT oT N W bL oL nL cL bP oP nP cP)(u v:Int)(h1:-9223372036854775808<=u/\u<9223372036854775808)(h2:-9223372036854775808<=v/\v<9223372036854775808)(pi ps:Int)(p0:w.cell? ⟨bP,oP+FJ N u v*2,none⟩=some (.int .i64 pi))(p1:w.cell? ⟨bP,oP+FJ N u v*2+1,none⟩=some (.int .i64 ps)):Calls Tryz.prog 206 #[.pointer (some ⟨bT,oT,none⟩),.int .i64 u,.int .i64 v] w λe w'=>e=.returned (.agg #[.int .i64 pi,.int .i64 ps])/\RowKit.Below w.heap.size w w':=by
 have hN0:=h.N0;have hN1:=h.N1;have hu0:=Int.emod_nonneg u (b:=(N:Int)) (by omega);have hu1:=Int.emod_lt_of_pos u (b:=(N:Int)) (by omega);have hv0:=Int.emod_nonneg v (b:=(N:Int)) (by omega);have hv1:=Int.emod_lt_of_pos v (b:=(N:Int)) (by omega);obtain⟨i,hi⟩:∃i:Nat,u%(N:Int)=(i:Int):=⟨(u%(N:Int)).toNat,by omega⟩;obtain⟨j,hj⟩:∃j:Nat,v%(N:Int)=(j:Int):=⟨(v%(N:Int)).toNat,by omega⟩;have hiN:i<N:=by omega
 have hjN:j<N:=by omega
 have hle:i*N+j<N*N:=Nat.lt_of_lt_of_le (Nat.add_lt_add_left hjN _) (by rw[<-Nat.succ_mul];exact Nat.mul_le_mul_right _ hiN);have hNN:N*N<=10000*10000:=Nat.mul_le_mul hN1 hN1;have hI:FJ N u v=i*N+j:=by unfold FJ;rw[hi,hj];rfl
 rw[hI]at p0 p1;have hm:IntKind.i64.wrap ((i:Int)*(N:Int))=((i*N:Nat):Int):=by rw[show(i:Int)*(N:Int)=((i*N:Nat):Int) by push_cast;rfl,IntKind.wrap_i64];omega
 have ha:IntKind.i64.wrap (((i*N:Nat):Int)+(j:Int))=((i*N+j:Nat):Int):=by rw[show((i*N:Nat):Int)+(j:Int)=((i*N+j:Nat):Int) by push_cast;rfl,IntKind.wrap_i64];omega
 have hlt:i*N+j<nP:=by rw[h.hP];exact hle
 have HR1:=Lib.hid (dM h u h1.1 h1.2);have HW:=Lib.hid h;have c0:=h.c0;have c3:=h.c3;have hH0:Hold w [(bT,oT,.int .i64 N),(bT,oT+3,.slice (some ⟨bP,oP,none⟩) nP cP),(bP,oP+(i*N+j)*2,.int .i64 pi),(bP,oP+(i*N+j)*2+1,.int .i64 ps)] w:=Hold.of4 h.ltT h.ltP c0 c3 p0 p1;have HH0:=Lib.hid hH0;have HH:=Lib.hid (hH0.alloc (.cells #[.int .i64 0,.int .i64 0] 267));have HX:=Lib.hid (Bx2.new w 267 (.int .i64 0) (.int .i64 0));clear hle hNN hH0 hI hu0 hu1 hv0 hv1 c0 c3 p0 p1 h hN0 hN1 hiN hjN;generalize i*N=iN at *;generalize iN+j=I at *;have hix0:(0:Int)<=(I:Int):=Int.natCast_nonneg _;have hix1:(I:Int)<(nP:Int):=by omega
 go_enter Tryz.func206,Tryz.ntmps206;go_wp2_with fail;have hH:=HH.out.drew;have hX:Bx2 (w.alloc (.cells #[.int .i64 0,.int .i64 0] 267)).drew w.heap.size 267 (.int .i64 0) (.int .i64 0):=HX.out;obtain⟨x0,x1,f0,f1⟩:=hX.facts
 go_region_held3 (λw'=>Hold w [(bT,oT,.int .i64 N),(bT,oT+3,.slice (some ⟨bP,oP,none⟩) nP cP),(bP,oP+I*2,.int .i64 pi),(bP,oP+I*2+1,.int .i64 ps)] w'/\w'.cell? ⟨bT,oT,none⟩=some (.int .i64 N)/\w'.cell? ⟨bT,oT+3,none⟩=some (.slice (some ⟨bP,oP,none⟩) nP cP)/\w'.cell? ⟨bP,oP+I*2,none⟩=some (.int .i64 pi)/\w'.cell? ⟨bP,oP+I*2+1,none⟩=some (.int .i64 ps))
  (first|exact Hold.dL (by assumption)|exact Hold.dL ((HH0.out.alloc _).drew))
  (first
   |(go_at_call_of 205 (Value.int .i64 u);refine(dM (HW.out.below (Hold.below hH)) u h1.1 h1.2).mono ?_;rintro e w1 ⟨rfl,rfl⟩;rw[hi])
   |(go_at_call_of 205 (Value.int .i64 v);refine(dM (HW.out.below (Hold.below hH)) v h2.1 h2.2).mono ?_;rintro e w1 ⟨rfl,rfl⟩;rw[hj]))
 all_goals
  have hZ:Bx2 (w.alloc (.cells #[.int .i64 pi,.int .i64 ps] 267)).drew w.heap.size 267 (.int .i64 pi) (.int .i64 ps):=Bx2.new w 267 _ _;obtain⟨d0,d1,_,_⟩:=hZ.facts;go_wp2;refine bodyPost_ret (by simp[results,Tryz.results206,go_sem,d0,d1];try rfl) rfl ?_;exact⟨rfl,(ax _ _).drew⟩
end Go.BI
namespace Go.BI
open Go Go.RowKit Go.Proofs
theorem IBlk.ints{B:Nat}{w:World}{T:TypeId}{b:Nat}{xs:List (Bool×Value)}{js:List J}(h:IBlk B w T b xs js)(hl:∀j∈js,j.n<18446744073709551616)(hm:js.length<=1000000):Ints w (some ⟨b,0,none⟩) js.length js.length js:=
 ⟨rfl,Nat.le_refl _,hm,λ_=>⟨b,0,rfl,h.lt,λi hi=>by
  have hx:i<xs.length:=by rw[h.len];exact hi
  obtain⟨e,A,m,c,e2,hn,_⟩:=h.at_ i xs[i].1 xs[i].2 js[i] (by rw[List.getElem?_eq_getElem hx]) (List.getElem?_eq_getElem hi);have h1:=eB (l:=xs) (i:=i) (s:=xs[i].1) (v:=xs[i].2) (by rw[List.getElem?_eq_getElem hx]);refine⟨A,m,c,?_,?_,hn.num,hl _ (List.getElem_mem hi)⟩
  .rw[Nat.zero_add,<-e];exact aw h.blk _ (by simpa using h1.1)
  .rw[Nat.zero_add,<-e2];exact aw h.blk _ (by simpa using h1.2)⟩⟩
structure Polys(i W:Nat)(gA gB gC gD ps:Int)(P:Nat->List J):Prop where
 zero:P 0=[jOf ps]
 len:∀k,k<=W->(P k).length=k+1
 lim:∀k,k<=W->∀j∈P k,j.n<18446744073709551616
 step:∀k,k<W->∃res:Nat->J,(∀m,m<=(P k).length->tEl (jOf (if k<i then gA else gC)) (jOf (if k<i then gB else gD)) (P k) m=some (res m))/\P (k+1)=(List.range ((P k).length+1)).map res
def Fq(nL pi:Nat)(p:List J)(js:List J):Nat->List J
 |0=>js
 |k+1=>(Fq nL pi p js k).set (k*nL+pi) (p.getD k J.null)
theorem dN(nL pi:Nat)(p js:List J)(k:Nat):(Fq nL pi p js k).length=js.length:=by
 induction k with
 |zero=>rfl
 |succ k ih=>rw[Fq,List.length_set,ih]
structure PRel(w:World)(g1 gp cnt W pi:Nat)(ps gA gB gC gD:Int)(P:Nat->List J)(xs:List (Bool×Value))(pv kv:Value)(wr:World):Prop where
 is:∃k gq xq,k<=W/\kv=.int .i64 k/\pv=.slice (some ⟨gq,0,none⟩) (P k).length (P k).length/\gp<gq/\g1<gp/\IBlk w.heap.size wr 50 gq xq (P k)/\IBlk w.heap.size wr 50 g1 xs (List.replicate cnt J.null)/\Bx2 wr gp 267 (.int .i64 pi) (.int .i64 ps)/\Env w [(#[.int .i64 gA,.int .i64 gB,.int .i64 gC,.int .i64 gD],185)] wr/\∀(q:Nat) (s:Bool) (v:Value),xq[q]?=some (s,v)->blkV v≠some g1
structure LRel(w:World)(g1 gp gq cnt nL pi:Nat)(ps gA gB gC gD:Int)(p:List J)(xq:List (Bool×Value))(kv:Value)(wr:World):Prop where
 is:∃k xo,k<=p.length/\kv=.int .i64 k/\IBlk w.heap.size wr 50 gq xq p/\IBlk w.heap.size wr 50 g1 xo (Fq nL pi p (List.replicate cnt J.null) k)/\(∀(m:Nat) (s:Bool) (v:Value) (g:Nat),xo[m]?=some (s,v)->blkV v=some g->∃q s',q<k/\xq[q]?=some (s',v))/\Bx2 wr gp 267 (.int .i64 pi) (.int .i64 ps)/\Env w [(#[.int .i64 gA,.int .i64 gB,.int .i64 gC,.int .i64 gD],185)] wr
structure ZRel(w:World)(g1 cnt:Nat)(gA gB gC gD:Int)(i:Value)(wr:World):Prop where
 is:∃k xs,k<=cnt/\i=.int .i64 k/\IBlk w.heap.size wr 50 g1 xs (List.replicate cnt J.null)/\Env w [(#[.int .i64 gA,.int .i64 gB,.int .i64 gC,.int .i64 gD],185)] wr
theorem y6(n k:Nat):(List.replicate n J.null).set k (jOf 0)=List.replicate n J.null:=by
 apply List.ext_getElem?;intro i;rw[List.getElem?_set];by_cases e:k=i
 .subst e;by_cases h:k<n
  .rw[if_pos rfl,if_pos (by simpa using h),List.getElem?_replicate,if_pos h];rfl
  .rw[if_pos rfl,if_neg (by simpa using h),List.getElem?_replicate,if_neg h]
 .rw[if_neg e]
theorem y8{bT oT N W bL oL nL cL bP oP nP cP:Nat}{w:World}(h:Wld w bT oT N W bL oL nL cL bP oP nP cP)(i j:Nat)(gA gB gC gD:Int)(hi:i<=1000)(hj:j<nL)(hA:-9223372036854775808<=gA/\gA<9223372036854775808)(hB:-9223372036854775808<=gB/\gB<9223372036854775808)(hC:-9223372036854775808<=gC/\gC<9223372036854775808)(hD:-9223372036854775808<=gD/\gD<9223372036854775808)(U V:Nat)(hU:U<=10000)(hV:V<=10000)(u0:w.cell? ⟨bL,oL+j*3,none⟩=some (.int .i64 U))(u1:w.cell? ⟨bL,oL+j*3+1,none⟩=some (.int .i64 V))(pi:Nat)(ps:Int)(hpi:pi<nL)(hps:-9223372036854775808<=ps/\ps<9223372036854775808)(p0:w.cell? ⟨bP,oP+FJ N (U*(gA%N)+V*(gC%N)) (U*(gB%N)+V*(gD%N))*2,none⟩=some (.int .i64 pi))(p1:w.cell? ⟨bP,oP+FJ N (U*(gA%N)+V*(gC%N)) (U*(gB%N)+V*(gD%N))*2+1,none⟩=some (.int .i64 ps))(P:Nat->List J)(hP:ps≠0->Polys i W gA gB gC gD ps P)(hcnt:(W+1)*nL<=1000000) :
 Calls Tryz.prog 118 #[.pointer (some ⟨bT,oT,none⟩),.int .i64 i,.int .i64 j,.agg #[.int .i64 gA,.int .i64 gB,.int .i64 gC,.int .i64 gD]] w
  (MakesInts (if ps=0 then List.replicate ((W+1)*nL) J.null else Fq nL pi (P W) (List.replicate ((W+1)*nL) J.null) (W+1)) w):=by
 obtain⟨RES,hRES⟩:∃R,R=(if ps=0 then List.replicate ((W+1)*nL) J.null else Fq nL pi (P W) (List.replicate ((W+1)*nL) J.null) (W+1)):=⟨_,rfl⟩;rw[<-hRES];have HRES:=Lib.hid hRES;clear hRES;have HCNT:Hid ((W+1)*nL<=1000001):=Lib.hid (by omega);have HM:=Lib.hid (λw:World=>pW w ((W+1)*nL) HCNT.out);have hpE:Env w [(#[.int .i64 gA,.int .i64 gB,.int .i64 gC,.int .i64 gD],185)] (w.alloc (.cells #[.int .i64 gA,.int .i64 gB,.int .i64 gC,.int .i64 gD] 185)):=.one;have HE:=Lib.hid hpE;clear hpE;have HH0:=Lib.hid (Hold.of4 h.ltT h.ltL h.c2 h.c3 u0 u1);clear u0 u1;have HW:=Lib.hid h;clear h;have HP:=Lib.hid hP;clear hP;have HP0:=Lib.hid p0;clear p0;have HP1:=Lib.hid p1;clear p1;go_enter Tryz.func118,Tryz.ntmps118;go_wp2_with fail;refine(y4 (HW.out.below HE.out.below)).mono ?_;rintro e w1 ⟨rfl,hb1⟩;have hE1:=Lib.hid (HE.out.step hb1);clear hb1;have hmk:=HM.out w1;generalize hcnt:(W+1)*nL=cnt at *;go_wp2;clear hmk
 go_loopw [27] (λi wr=>ZRel w w1.heap.size cnt gA gB gC gD i wr) (λi _=>cnt-(intOf i).toNat)
 case atStart=>exact⟨⟨0,_,Nat.zero_le _,rfl,IBlk.pX w1 50 cnt w.heap.size,hE1.out.step (ax _ _)⟩⟩
 case round=>
  obtain⟨k,xs,hk,rfl,hblk,hE⟩:=hrel.is;have HBLK:=Lib.hid hblk;have HEr:=Lib.hid hE;have HG:Hid (w.heap.size+1<=w1.heap.size):=Lib.hid hE1.out.size;clear hblk hE hrel;have hcb:=HCNT.out;by_cases hkc:k<cnt
  .go_wp2_with fail;refine(a_ 0 _ (by decide) (by decide)).mono ?_;rintro e w2 ⟨⟨A0,m0,c0,rfl,hN0⟩,hB0⟩;have HB2:=Lib.hid hB0;have HN2:=Lib.hid hN0;obtain⟨so,vo,o0,o1,g0,g1⟩:=(HBLK.out.below hB0).facts (i:=k) (by simpa using hkc);have hix5:(0:Int)<=((k:Nat):Int):=Int.natCast_nonneg _;have hix6:((k:Nat):Int)<((cnt:Nat):Int):=by omega
   clear hN0 hB0;go_wp2
   go_roundw
   case rel=>
    refine⟨k+1,xs.set k ((jOf 0).s,.slice A0 m0 c0),by omega,by go_num,?_,?_⟩
    .exact(HBLK.out.put HB2.out HEr.out.below.size HN2.out k).cast (y6 cnt k)
    .exact((HEr.out.step HB2.out).set (b:=w1.heap.size) HG.out _ _).set (b:=w1.heap.size) HG.out _ _
   case measure=>simp[intOf]<;>omega
  .have hkc2:k=cnt:=by omega
   subst hkc2;go_wp2_with fail;have hix7:(0:Int)<=(j:Int):=Int.natCast_nonneg j;have hix8:(j:Int)<(nL:Int):=by omega
   have hH:=(HH0.out.step HEr.out.below).drew
   go_region_held3 (λw'=>Hold w [(bT,oT+2,.slice (some ⟨bL,oL,none⟩) nL cL),(bT,oT+3,.slice (some ⟨bP,oP,none⟩) nP cP),(bL,oL+j*3,.int .i64 U),(bL,oL+j*3+1,.int .i64 V)] w'/\w'.cell? ⟨bT,oT+2,none⟩=some (.slice (some ⟨bL,oL,none⟩) nL cL)/\w'.cell? ⟨bT,oT+3,none⟩=some (.slice (some ⟨bP,oP,none⟩) nP cP)/\w'.cell? ⟨bL,oL+j*3,none⟩=some (.int .i64 U)/\w'.cell? ⟨bL,oL+j*3+1,none⟩=some (.int .i64 V))
    (exact Hold.dL (by assumption))
    (fail)
   have HB3:=Lib.hid (HBLK.out.below (RowKit.Below.refl _ wr).drew);have HE3:=Lib.hid HEr.out.drew;clear hH
   revert HB3 HE3
   generalize wr.drew=w3;intro HB3 HE3;go_wp2_with fail;have hE4:=HE3.out.drew
   go_region_held3 (λw'=>Env w [(#[.int .i64 gA,.int .i64 gB,.int .i64 gC,.int .i64 gD],185)] w'/\w'.cell? ⟨w.heap.size,0,none⟩=some (.int .i64 gA)/\w'.cell? ⟨w.heap.size,1,none⟩=some (.int .i64 gB)/\w'.cell? ⟨w.heap.size,2,none⟩=some (.int .i64 gC)/\w'.cell? ⟨w.heap.size,3,none⟩=some (.int .i64 gD))
    (exact Env.q0 (by assumption))
    (first
     |(go_at_call_of 205 (Value.int .i64 gA);refine(dM (HW.out.below (Env.below hE4)) gA hA.1 hA.2).mono ?_;rintro e w4 ⟨rfl,rfl⟩)
     |(go_at_call_of 205 (Value.int .i64 gB);refine(dM (HW.out.below (Env.below hE4)) gB hB.1 hB.2).mono ?_;rintro e w4 ⟨rfl,rfl⟩)
     |(go_at_call_of 205 (Value.int .i64 gC);refine(dM (HW.out.below (Env.below hE4)) gC hC.1 hC.2).mono ?_;rintro e w4 ⟨rfl,rfl⟩)
     |(go_at_call_of 205 (Value.int .i64 gD);refine(dM (HW.out.below (Env.below hE4)) gD hD.1 hD.2).mono ?_;rintro e w4 ⟨rfl,rfl⟩))
   have HE4:=Lib.hid hE4;have HB4:=Lib.hid (HB3.out.below (RowKit.Below.refl _ w3).drew);clear hE4 HE3 HB3
   revert HE4 HB4
   generalize w3.drew=w4;intro HE4 HB4;have hNp:(0:Int)<(N:Int):=by have:=HW.out.N0;omega
   have hNq:(N:Int)<=10000:=by have:=HW.out.N1;omega
   have hrA0:0<=gA%(N:Int):=Int.emod_nonneg gA (by omega);have hrA1:gA%(N:Int)<(N:Int):=Int.emod_lt_of_pos gA hNp;generalize gA%(N:Int)=rA at *;have hrB0:0<=gB%(N:Int):=Int.emod_nonneg gB (by omega);have hrB1:gB%(N:Int)<(N:Int):=Int.emod_lt_of_pos gB hNp;generalize gB%(N:Int)=rB at *;have hrC0:0<=gC%(N:Int):=Int.emod_nonneg gC (by omega);have hrC1:gC%(N:Int)<(N:Int):=Int.emod_lt_of_pos gC hNp;generalize gC%(N:Int)=rC at *;have hrD0:0<=gD%(N:Int):=Int.emod_nonneg gD (by omega);have hrD1:gD%(N:Int)<(N:Int):=Int.emod_lt_of_pos gD hNp;generalize gD%(N:Int)=rD at *;have qrA0:0<=(U:Int)*rA:=Int.mul_nonneg (by omega) (by omega);have qrA1:(U:Int)*rA<=10000*10000:=Int.mul_le_mul (by omega) (by omega) (by omega) (by omega);have qrA2:IntKind.i64.wrap ((U:Int)*rA)=(U:Int)*rA:=IntWalk.i64_in _ (by omega);have qrB0:0<=(U:Int)*rB:=Int.mul_nonneg (by omega) (by omega);have qrB1:(U:Int)*rB<=10000*10000:=Int.mul_le_mul (by omega) (by omega) (by omega) (by omega);have qrB2:IntKind.i64.wrap ((U:Int)*rB)=(U:Int)*rB:=IntWalk.i64_in _ (by omega);have qrC0:0<=(V:Int)*rC:=Int.mul_nonneg (by omega) (by omega);have qrC1:(V:Int)*rC<=10000*10000:=Int.mul_le_mul (by omega) (by omega) (by omega) (by omega);have qrC2:IntKind.i64.wrap ((V:Int)*rC)=(V:Int)*rC:=IntWalk.i64_in _ (by omega);have qrD0:0<=(V:Int)*rD:=Int.mul_nonneg (by omega) (by omega);have qrD1:(V:Int)*rD<=10000*10000:=Int.mul_le_mul (by omega) (by omega) (by omega) (by omega);have qrD2:IntKind.i64.wrap ((V:Int)*rD)=(V:Int)*rD:=IntWalk.i64_in _ (by omega);have qAC:IntKind.i64.wrap ((U:Int)*rA+(V:Int)*rC)=(U:Int)*rA+(V:Int)*rC:=IntWalk.i64_in _ (by omega);have qBD:IntKind.i64.wrap ((U:Int)*rB+(V:Int)*rD)=(U:Int)*rB+(V:Int)*rD:=IntWalk.i64_in _ (by omega);go_wp2_with fail;refine(y5 (HW.out.below HE4.out.below) ((U:Int)*rA+(V:Int)*rC) ((U:Int)*rB+(V:Int)*rD) ⟨by omega,by omega⟩ ⟨by omega,by omega⟩ pi ps ((HE4.out.below.cell (p:=⟨bP,_,none⟩) HW.out.ltP).trans HP0.out) ((HE4.out.below.cell (p:=⟨bP,_,none⟩) HW.out.ltP).trans HP1.out)).mono ?_;rintro e w5 ⟨rfl,hb5⟩;have HE5:=Lib.hid (HE4.out.step hb5);have HB5:=Lib.hid (HB4.out.below hb5);clear hb5 HE4 HB4;have hX5:=Bx2.new w5 267 (.int .i64 pi) (.int .i64 ps);by_cases hz:ps=0
   .have hz2:(ps==0)=true:=by simp[hz]
    have hR:=HRES.out;rw[if_pos hz]at hR;have HR:=Lib.hid hR;have HZ:=Lib.hid hz;clear hR hz;go_wp2;go_ret;exact⟨⟨w1.heap.size,xs,by rw[HR.out];simp,by have:=HG.out;omega,(HB5.out.below (ax _ _)).cast HR.out.symm⟩,(HE5.out.step (ax _ _)).below⟩
   .have hz2:(ps==0)=false:=by simp[hz]
    have hR:=HRES.out;rw[if_neg hz]at hR;have HR:=Lib.hid hR;have HPO:=Lib.hid (HP.out hz);clear hR hz;go_wp2_with fail;refine(a_ ps _ hps.1 hps.2).mono ?_;rintro e w6 ⟨⟨A6,m6,c6,rfl,hN6⟩,hB6⟩;have HE6:=Lib.hid ((HE5.out.step (ax w5 (.cells #[.int .i64 pi,.int .i64 ps] 267))).step hB6);have HB6:=Lib.hid ((HB5.out.below (ax w5 (.cells #[.int .i64 pi,.int .i64 ps] 267))).below hB6);have HX6:=Lib.hid (hX5.step hB6);have HQ6:=Lib.hid (IBlk.single (B:=w.heap.size) 50 (hN6.mono (by have:=HE5.out.below.size;show _<=(w5.alloc _).heap.size;rw[aK];omega)))
    have HQ7:Hid (∀(q:Nat) (s:Bool) (v:Value),[((jOf ps).s,Value.slice A6 m6 c6)][q]?=some (s,v)->blkV v≠some w1.heap.size):=Lib.hid λq s v hq hv=>by
     have e:v=.slice A6 m6 c6:=by cases q with|zero=>cases hq;rfl|succ q=>cases hq
     subst e;obtain⟨o,e,hm,_⟩:=fy hN6.num hv;have h1:=hN6.fresh _ o e hm;have h2:(w5.alloc (.cells #[.int .i64 pi,.int .i64 ps] 267)).heap.size=w5.heap.size+1:=aK _ _;have h3:=HB5.out.lt;omega
    have HG5:Hid (w1.heap.size<w5.heap.size):=Lib.hid HB5.out.lt;have HG6:Hid (w5.heap.size<w6.heap.size):=Lib.hid (hX5.step hB6).lt;clear hN6 hB6 hX5 HE5 HB5;go_wp2
    go_loopw [18,19] (λpv kv wr=>PRel w w1.heap.size w5.heap.size k W pi ps gA gB gC gD P xs pv kv wr) (λ_ kv _=>W-(intOf kv).toNat)
    case atStart=>exact⟨⟨0,w6.heap.size,_,Nat.zero_le _,rfl,by rw[HPO.out.zero];rfl,HG6.out,HG5.out,by rw[HPO.out.zero];exact HQ6.out,HB6.out.below (ax _ _),HX6.out.step (ax _ _),HE6.out.step (ax _ _),HQ7.out⟩⟩
    case round=>
     obtain⟨k',gq,xq,hk',rfl,rfl,hgq,hg1,hbq,hbo,hx,hE,hnb⟩:=hrel.is;have HNB:=Lib.hid hnb;clear hnb;have HBQ:=Lib.hid hbq;have HBO:=Lib.hid hbo;have HXr:=Lib.hid hx;have HEr:=Lib.hid hE;have c1r:=(hE.below.cell (p:=⟨bT,oT+1,none⟩) HW.out.ltT).trans HW.out.c1;clear hbq hbo hx hE hrel;by_cases hkW:k'<W
     .have hkW2:(k':Int)<(W:Int):=by omega
      have hWb:=HW.out.W1;obtain⟨res,hres,hPs⟩:=HPO.out.step k' hkW;have HPS:=Lib.hid hPs;clear hPs;by_cases hki:k'<i
      .have hki2:(k':Int)<(i:Int):=by omega
       simp only[if_pos hki]at hres;have HRE:=Lib.hid hres;clear hres;go_wp2_with fail;have hE0:=HEr.out.drew;have hB0:=HBQ.out.below (RowKit.Below.refl _ wr).drew
       go_region_held3 (λw'=>Env w [(#[.int .i64 gA,.int .i64 gB,.int .i64 gC,.int .i64 gD],185)] w'/\w'.cell? ⟨w.heap.size,0,none⟩=some (.int .i64 gA)/\w'.cell? ⟨w.heap.size,1,none⟩=some (.int .i64 gB)/\w'.cell? ⟨w.heap.size,2,none⟩=some (.int .i64 gC)/\w'.cell? ⟨w.heap.size,3,none⟩=some (.int .i64 gD))
        (exact Env.q0 (by assumption))
        (first
         |(go_at_call_of 69 (Value.int .i64 gA);refine(a_ gA _ hA.1 hA.2).mono ?_;rintro e w7 ⟨⟨A7,m7,c7,rfl,hN7⟩,hB7⟩;have hE7:=Env.step hE0 hB7)
         |(go_at_call_of 69 (Value.int .i64 gB);refine(a_ gB _ hB.1 hB.2).mono ?_;rintro e w8 ⟨⟨A8,m8,c8,rfl,hN8⟩,hB8⟩;have hE8:=Env.step hE7 hB8;have hN7':=NumN.below hN7 hB8)
         |(go_at_call 207;refine(p9 (some ⟨gq,0,none⟩) (P k').length (P k').length (P k') (jOf gA) (jOf gB) A7 A8 m7 c7 m8 c8 _ ((((IBlk.ints hB0 (HPO.out.lim k' hk') (by rw[HPO.out.len k' hk'];omega)).below hB7)).below hB8) hN7'.num hN8.num (fH hA.1 hA.2) (fH hB.1 hB.2) res HRE.out).mono ?_;rintro e w9 ⟨⟨g9,xs9,rfl,hg9,hI9⟩,hB9⟩;have hE9:=Env.step hE8 hB9))
       have HE9:=Lib.hid hE9;have HK9:Hid (RowKit.Below wr.heap.size wr w9):=Lib.hid ((((RowKit.Below.refl _ wr).drew.trans hB7).trans (hB8.mono hB7.size)).trans (hB9.mono (Nat.le_trans hB7.size hB8.size)));have HNB9:Hid (∀(q:Nat) (s:Bool) (v:Value),xs9[q]?=some (s,v)->blkV v≠some w1.heap.size):=Lib.hid λq s v hq hv=>by have h1:=hI9.fresh hq hv;have h2:=HBO.out.lt;have h3:wr.heap.size<=w8.heap.size:=Nat.le_trans hB7.size hB8.size;omega
       have HI9:=Lib.hid ((hI9.mono (Nat.le_trans HEr.out.below.size (Nat.le_trans hB7.size hB8.size))).cast HPS.out.symm);have HG9:=Lib.hid (Nat.lt_of_lt_of_le HBQ.out.lt (Nat.le_trans hB7.size (Nat.le_trans hB8.size hg9)));have HL9:Hid ((P k').length+1=(P (k'+1)).length):=Lib.hid (by rw[HPS.out];simp);clear hE0 hB0 hE7 hB7 hN7 hE8 hB8 hN8 hN7' hE9 hB9 hI9;go_wp2
       go_roundw
       case rel=>refine⟨k'+1,g9,xs9,by omega,by go_num,by rw[HL9.out],by have:=HG9.out;omega,hg1,HI9.out,HBO.out.below HK9.out,HXr.out.step HK9.out,HEr.out.step HK9.out,HNB9.out⟩
       case measure=>simp[intOf]<;>omega
      .have hki2:¬(k':Int)<(i:Int):=by omega
       simp only[if_neg hki]at hres;have HRE:=Lib.hid hres;clear hres;go_wp2_with fail;have hE0:=HEr.out.drew;have hB0:=HBQ.out.below (RowKit.Below.refl _ wr).drew
       go_region_held3 (λw'=>Env w [(#[.int .i64 gA,.int .i64 gB,.int .i64 gC,.int .i64 gD],185)] w'/\w'.cell? ⟨w.heap.size,0,none⟩=some (.int .i64 gA)/\w'.cell? ⟨w.heap.size,1,none⟩=some (.int .i64 gB)/\w'.cell? ⟨w.heap.size,2,none⟩=some (.int .i64 gC)/\w'.cell? ⟨w.heap.size,3,none⟩=some (.int .i64 gD))
        (exact Env.q0 (by assumption))
        (first
         |(go_at_call_of 69 (Value.int .i64 gC);refine(a_ gC _ hC.1 hC.2).mono ?_;rintro e w7 ⟨⟨A7,m7,c7,rfl,hN7⟩,hB7⟩;have hE7:=Env.step hE0 hB7)
         |(go_at_call_of 69 (Value.int .i64 gD);refine(a_ gD _ hD.1 hD.2).mono ?_;rintro e w8 ⟨⟨A8,m8,c8,rfl,hN8⟩,hB8⟩;have hE8:=Env.step hE7 hB8;have hN7':=NumN.below hN7 hB8)
         |(go_at_call 207;refine(p9 (some ⟨gq,0,none⟩) (P k').length (P k').length (P k') (jOf gC) (jOf gD) A7 A8 m7 c7 m8 c8 _ ((((IBlk.ints hB0 (HPO.out.lim k' hk') (by rw[HPO.out.len k' hk'];omega)).below hB7)).below hB8) hN7'.num hN8.num (fH hC.1 hC.2) (fH hD.1 hD.2) res HRE.out).mono ?_;rintro e w9 ⟨⟨g9,xs9,rfl,hg9,hI9⟩,hB9⟩;have hE9:=Env.step hE8 hB9))
       have HE9:=Lib.hid hE9;have HK9:Hid (RowKit.Below wr.heap.size wr w9):=Lib.hid ((((RowKit.Below.refl _ wr).drew.trans hB7).trans (hB8.mono hB7.size)).trans (hB9.mono (Nat.le_trans hB7.size hB8.size)));have HNB9:Hid (∀(q:Nat) (s:Bool) (v:Value),xs9[q]?=some (s,v)->blkV v≠some w1.heap.size):=Lib.hid λq s v hq hv=>by have h1:=hI9.fresh hq hv;have h2:=HBO.out.lt;have h3:wr.heap.size<=w8.heap.size:=Nat.le_trans hB7.size hB8.size;omega
       have HI9:=Lib.hid ((hI9.mono (Nat.le_trans HEr.out.below.size (Nat.le_trans hB7.size hB8.size))).cast HPS.out.symm);have HG9:=Lib.hid (Nat.lt_of_lt_of_le HBQ.out.lt (Nat.le_trans hB7.size (Nat.le_trans hB8.size hg9)));have HL9:Hid ((P k').length+1=(P (k'+1)).length):=Lib.hid (by rw[HPS.out];simp);clear hE0 hB0 hE7 hB7 hN7 hE8 hB8 hN8 hN7' hE9 hB9 hI9;go_wp2
       go_roundw
       case rel=>refine⟨k'+1,g9,xs9,by omega,by go_num,by rw[HL9.out],by have:=HG9.out;omega,hg1,HI9.out,HBO.out.below HK9.out,HXr.out.step HK9.out,HEr.out.step HK9.out,HNB9.out⟩
       case measure=>simp[intOf]<;>omega
     .have hkW3:k'=W:=by omega
      subst hkW3;have hpl:(P k').length<=1001:=by rw[HPO.out.len k' (Nat.le_refl _)];have:=HW.out.W1;omega
      have HPL:=Lib.hid (HPO.out.len k' (Nat.le_refl _));generalize P k'=p at *;go_wp2
      go_loopw [120] (λkv wr=>LRel w w1.heap.size w5.heap.size gq k nL pi ps gA gB gC gD p xq kv wr) (λkv _=>p.length-(intOf kv).toNat)
      case atStart=>exact⟨⟨0,xs,Nat.zero_le _,rfl,HBQ.out,HBO.out,λm s v g hm hg=>(by rw[HBO.out.yW hm]at hg;cases hg),HXr.out,HEr.out⟩⟩
      case round=>
       obtain⟨k3,xo,hk3,rfl,hbq3,hbo3,hxo,hx3,hE3⟩:=hrel.is;have HBQ3:=Lib.hid hbq3;have HBO3:=Lib.hid hbo3;have HXO3:=Lib.hid hxo;have HX3:=Lib.hid hx3;have HE3:=Lib.hid hE3;clear hbq3 hbo3 hxo hx3 hE3 hrel;by_cases hkp:k3<p.length
       .have hkp2:(k3:Int)<(p.length:Int):=by omega
        have hkp0:(0:Int)<=(k3:Int):=Int.natCast_nonneg _;obtain⟨AX,mX,cX,hxe,hNX,y0,y1⟩:=HBQ3.out.elem hkp;have HXE:=Lib.hid hxe;have HNX:=Lib.hid hNX;clear hxe hNX;have hmul:k3*nL<=1001*10000:=Nat.mul_le_mul (by omega) HW.out.L1;have q1:IntKind.i64.wrap ((k3:Int)*(nL:Int))=((k3*nL:Nat):Int):=by rw[show(k3:Int)*(nL:Int)=((k3*nL:Nat):Int) by push_cast;rfl];exact IntWalk.i64_in _ (by omega)
        have q2:IntKind.i64.wrap (((k3*nL:Nat):Int)+(pi:Int))=((k3*nL+pi:Nat):Int):=by rw[show((k3*nL:Nat):Int)+(pi:Int)=((k3*nL+pi:Nat):Int) by push_cast;rfl];exact IntWalk.i64_in _ (by have:=HW.out.L1;omega)
        have hIlt:k3*nL+pi<k:=by
         have h1:k3+1<=k'+1:=by have:=HPL.out;omega
         have h2:(k3+1)*nL<=(k'+1)*nL:=Nat.mul_le_mul_right _ h1;rw[Nat.succ_mul]at h2;omega
        have HPS3:Hid (Fq nL pi p (List.replicate k J.null) (k3+1)=(Fq nL pi p (List.replicate k J.null) k3).set (k3*nL+pi) p[k3]):=Lib.hid (by rw[Fq,List.getD_eq_getElem?_getD,List.getElem?_eq_getElem hkp];rfl);clear hmul;generalize hkn:k3*nL=KN at *;generalize hI:KN+pi=I at *;have hix0:(0:Int)<=(I:Int):=Int.natCast_nonneg _;have hix1:(I:Int)<(k:Int):=by omega
        have hc2:wr.cell? ⟨bT,oT+2,none⟩=some (.slice (some ⟨bL,oL,none⟩) nL cL):=(HE3.out.below.cell (p:=⟨bT,oT+2,none⟩) HW.out.ltT).trans HW.out.c2;obtain⟨z0,z1,_,_⟩:=HX3.out.facts;have hne1:bT≠w1.heap.size:=by have:=HW.out.ltT;have:=HG.out;omega
        have hne2:w5.heap.size≠w1.heap.size:=by omega
        have hne3:wr.heap.size≠w1.heap.size:=by have:=HBO3.out.lt;omega
        have hB1:RowKit.Below wr.heap.size wr (wr.alloc (.cells #[.bool p[k3].s,.slice AX mX cX] 50)).drew:=(ax _ _).drew;have hXX:Bx2 (wr.alloc (.cells #[.bool p[k3].s,.slice AX mX cX] 50)).drew wr.heap.size 50 (.bool p[k3].s) (.slice AX mX cX):=Bx2.new wr 50 _ _;have F0:(λw':World=>w'.cell? ⟨bT,oT+2,none⟩=some (.slice (some ⟨bL,oL,none⟩) nL cL)/\w'.cell? ⟨w5.heap.size,0,none⟩=some (.int .i64 pi)/\w'.cell? ⟨wr.heap.size,0,none⟩=some (.bool p[k3].s)/\w'.cell? ⟨wr.heap.size,1,none⟩=some (.slice AX mX cX)) (wr.alloc (.cells #[.bool p[k3].s,.slice AX mX cX] 50)).drew:=⟨(hB1.cell (p:=⟨bT,oT+2,none⟩) (by show bT<_;have:=HW.out.ltT;have:=HE3.out.below.size;omega)).trans hc2,(hB1.cell (p:=⟨w5.heap.size,0,none⟩) HX3.out.lt).trans z0,hXX.facts.1,hXX.facts.2.1⟩;have HF0:=Lib.hid F0;have HF1:Hid (∀X Y,(λw':World=>w'.cell? ⟨bT,oT+2,none⟩=some (.slice (some ⟨bL,oL,none⟩) nL cL)/\w'.cell? ⟨w5.heap.size,0,none⟩=some (.int .i64 pi)/\w'.cell? ⟨wr.heap.size,0,none⟩=some (.bool p[k3].s)/\w'.cell? ⟨wr.heap.size,1,none⟩=some (.slice AX mX cX)) (((wr.alloc (.cells #[.bool p[k3].s,.slice AX mX cX] 50)).drew.setCell ⟨w1.heap.size,I*2,none⟩ X).setCell ⟨w1.heap.size,I*2+1,none⟩ Y)):=Lib.hid λX Y=>⟨iR F0.1 hne1,iR F0.2.1 hne2,iR F0.2.2.1 hne3,iR F0.2.2.2 hne3⟩
        obtain⟨so,vo,o0,o1,g0,g1⟩:=(HBO3.out.below hB1).facts (i:=I) (by rw[dN];simpa using hIlt);have HB1:=Lib.hid hB1;clear F0 hB1 hXX hne1 hne2 hne3 z0 z1;go_wp2_with fail
        revert HF0 HF1 o0 o1 g0 g1 HB1
        generalize (wr.alloc (.cells #[.bool p[k3].s,.slice AX mX cX] 50))=wa;intro HF0 HF1 o0 o1 g0 g1 HB1;have o0':wa.cell? ⟨w1.heap.size,I*2,none⟩=some (.bool so):=o0;have o1':wa.cell? ⟨w1.heap.size,I*2+1,none⟩=some vo:=o1;have g0':wa.frozen? ⟨w1.heap.size,I*2,none⟩=false:=g0;have g1':wa.frozen? ⟨w1.heap.size,I*2+1,none⟩=false:=g1;clear o0 o1 g0 g1
        go_region_held3 (λw'=>w'.cell? ⟨bT,oT+2,none⟩=some (.slice (some ⟨bL,oL,none⟩) nL cL)/\w'.cell? ⟨w5.heap.size,0,none⟩=some (.int .i64 pi)/\w'.cell? ⟨wr.heap.size,0,none⟩=some (.bool p[k3].s)/\w'.cell? ⟨wr.heap.size,1,none⟩=some (.slice AX mX cX))
         (first|exact HF0.out|exact HF1.out _ _)
         (fail)
        have HSX:Hid (∀m s v g,(xo.set I (p[k3].s,Value.slice AX mX cX))[m]?=some (s,v)->blkV v=some g->∃q s',q<k3+1/\xq[q]?=some (s',v)):=Lib.hid λm s v g hm hg=>by
         by_cases e:I=m
         .subst e;rw[List.getElem?_set]at hm;simp only[if_true]at hm;split at hm
          .cases hm;exact⟨k3,_,by omega,HXE.out⟩
          .cases hm
         .rw[List.getElem?_set_ne e]at hm;obtain⟨q,s',hq,hx⟩:=HXO3.out m s v g hm hg;exact⟨q,s',by omega,hx⟩
        have HPUT:=Lib.hid (((HBO3.out.below HB1.out).yU (HNX.out.below HB1.out) I (λg hg e=>HNB.out _ _ _ HXE.out (e▸hg)) (λm s v g hm hx hg hu=>by
         obtain⟨q,s',hq,hxq⟩:=HXO3.out m s v g hx hg
         exact HBQ3.out.apart q k3 s' v _ _ g (by omega) hxq HXE.out hg hu)).cast HPS3.out.symm)
        have HON:Hid (Only w1.heap.size wa.drew ((wa.drew.setCell ⟨w1.heap.size,I*2,none⟩ (.bool p[k3].s)).setCell ⟨w1.heap.size,I*2+1,none⟩ (.slice AX mX cX))):=Lib.hid (((Only.refl _ _).set _ _).set _ _);go_wp2
        go_roundw
        case rel=>
         refine⟨k3+1,xo.set I (p[k3].s,.slice AX mX cX),by omega,by go_num,?_,HPUT.out,HSX.out,?_,?_⟩
         .exact(HBQ3.out.below HB1.out).only HON.out (by omega) HNB.out
         .exact(HON.out.block _ (by omega)).trans (HX3.out.step HB1.out)
         .exact((HE3.out.step HB1.out).set (b:=w1.heap.size) HG.out _ _).set (b:=w1.heap.size) HG.out _ _
        case measure=>simp[intOf]<;>omega
       .have hkp3:k3=p.length:=by omega
        subst hkp3;go_wp2;go_ret;exact⟨⟨w1.heap.size,xo,by rw[HR.out,dN];simp,by have:=HG.out;omega,HBO3.out.cast (by rw[HR.out,HPL.out])⟩,HE3.out.below⟩
end Go.BI
namespace Go.Ex
open Go Go.RowKit Go.Proofs Go.BI
def G7(a b:J):J->List J->Option (List J)
 |x,[]=>some [x]
 |x,q::r=>(jMul b q).bind λy=>(jAdd x y).bind λe=>bif inW e.n then(jMul a q).bind λx'=>(G7 a b x' r).map λl=>e::l else none
def FB(a b:J)(l:List J):Option (List J):=G7 a b (jOf 0) l
theorem zc{a b:J}:∀{l:List J} {x:J} {out:List J},G7 a b x l=some out->x.n<18446744073709551616->out.length=l.length+1/\(∀e∈out,e.n<18446744073709551616)/\(tAdd b l 0 x=out[0]?)/\∀m,m<l.length->tEl a b l (m+1)=out[m+1]?:=by
 intro l
 induction l with
 |nil=>
  intro x out h hx;cases h;refine⟨rfl,λe he=>?_,rfl,λm hm=>absurd hm (by simp)⟩;have:e=x:=by simpa using he
  subst this;exact hx
 |cons q r ih=>
  intro x out h hx;unfold G7 at h;simp only[Option.bind_eq_some_iff]at h;obtain⟨y,hy,e,he,h⟩:=h;cases hw:inW e.n with
  |false=>rw[hw]at h;cases h
  |true=>
   rw[hw]at h;simp only[cond,Option.bind_eq_some_iff,Option.map_eq_some_iff]at h;obtain⟨x',hx',l2,hl2,rfl⟩:=h;obtain⟨h1,h2,h3,h4⟩:=ih hl2 (dK hx').2.2;refine⟨by simp[h1],λf hf=>?_,?_,λm hm=>?_⟩
   .rcases List.mem_cons.1 hf with rfl|hf
    .exact au hw
    .exact h2 f hf
   .show(jMul b q).bind (λy=>jAdd x y)=_;rw[hy];exact he
   .cases m with
    |zero=>show(jMul a q).bind (tAdd b (q::r) 1)=_;rw[hx'];show tAdd b (q::r) 1 x'=l2[0]?;rw[<-h3];rfl
    |succ m=>have:=h4 m (by simpa using hm);show tEl a b (q::r) (m+2)=l2[m+1]?;rw[<-this];rfl
theorem p_{a b:J}{l out:List J}(h:FB a b l=some out):out.length=l.length+1/\(∀e∈out,e.n<18446744073709551616)/\∃res:Nat->J,(∀m,m<=l.length->tEl a b l m=some (res m))/\out=(List.range (l.length+1)).map res:=by
 obtain⟨h1,h2,h3,h4⟩:=zc h (by decide);refine⟨h1,h2,λm=>out.getD m J.null,λm hm=>?_,?_⟩
 .have hlt:m<out.length:=by omega
  have e:out[m]?=some (out.getD m J.null):=by rw[List.getD_eq_getElem?_getD,List.getElem?_eq_getElem hlt];rfl
  cases m with
  |zero=>rw[<-e,<-h3];rfl
  |succ m=>rw[<-e];exact h4 m (by omega)
 .apply List.ext_getElem?;intro m;rw[List.getElem?_map];by_cases hm:m<l.length+1
  .rw[List.getElem?_range hm];simp only[Option.map_some];rw[List.getD_eq_getElem?_getD,List.getElem?_eq_getElem (by omega)];rfl
  .rw[List.getElem?_eq_none (by omega),List.getElem?_eq_none (by simp;omega)];rfl
def GA(i:Nat)(gA gB gC gD:Int):Nat->Nat->List J->Option (List J)
 |0,_,p=>some p
 |n+1,k,p=>(bif Nat.blt k i then FB (jOf gA) (jOf gB) p else FB (jOf gC) (jOf gD) p).bind λq=>GA i gA gB gC gD n (Nat.succ k) q
def Fs(i:Nat)(gA gB gC gD ps:Int):Nat->List J
 |0=>[jOf ps]
 |k+1=>((bif Nat.blt k i then FB (jOf gA) (jOf gB) (Fs i gA gB gC gD ps k)else FB (jOf gC) (jOf gD) (Fs i gA gB gC gD ps k))).getD []
theorem zd{i:Nat}{gA gB gC gD ps:Int}:∀{n k:Nat} {out:List J},GA i gA gB gC gD n k (Fs i gA gB gC gD ps k)=some out->out=Fs i gA gB gC gD ps (k+n)/\∀m,k<=m->m<k+n->(bif Nat.blt m i then FB (jOf gA) (jOf gB) (Fs i gA gB gC gD ps m)else FB (jOf gC) (jOf gD) (Fs i gA gB gC gD ps m))=some (Fs i gA gB gC gD ps (m+1)):=by
 intro n
 induction n with
 |zero=>intro k out h;cases h;exact⟨rfl,λm h1 h2=>absurd h2 (by omega)⟩
 |succ n ih=>
  intro k out h;unfold GA at h;simp only[Option.bind_eq_some_iff]at h;obtain⟨q,hq,h⟩:=h;have e:q=Fs i gA gB gC gD ps (k+1):=by show q=(bif Nat.blt k i then FB (jOf gA) (jOf gB) (Fs i gA gB gC gD ps k)else FB (jOf gC) (jOf gD) (Fs i gA gB gC gD ps k)).getD [];rw[hq];rfl
  subst e;obtain⟨h1,h2⟩:=ih h;refine⟨by rw[h1];congr 1;show k+1+n=_;omega,λm hm hm2=>?_⟩;by_cases e:m=k
  .subst e;exact hq
  .exact h2 m (by have:Nat.succ k=k+1:=rfl;omega) (by have:Nat.succ k=k+1:=rfl;omega)
theorem qa{i W:Nat}{gA gB gC gD ps:Int}(h1:-9223372036854775808<=ps)(h2:ps<9223372036854775808){out:List J}(h:GA i gA gB gC gD W 0 [jOf ps]=some out):Polys i W gA gB gC gD ps (Fs i gA gB gC gD ps)/\out=Fs i gA gB gC gD ps W:=by
 obtain⟨e,hs⟩:=zd (ps:=ps) (k:=0) h
 have st:∀k,k<W->∃a b,a=jOf (if k<i then gA else gC)/\b=jOf (if k<i then gB else gD)/\FB a b (Fs i gA gB gC gD ps k)=some (Fs i gA gB gC gD ps (k+1)):=λk hk=>by
  have h3:=hs k (Nat.zero_le _) (by omega);by_cases hi:k<i
  .rw[show Nat.blt k i=true from Nat.ble_eq_true_of_le hi]at h3;exact⟨_,_,by rw[if_pos hi],by rw[if_pos hi],h3⟩
  .have hb:Nat.blt k i=false:=by
    cases hb:Nat.blt k i with
    |false=>rfl
    |true=>exact absurd (au hb) hi
   rw[hb]at h3;exact⟨_,_,by rw[if_neg hi],by rw[if_neg hi],h3⟩
 have inv:∀k,k<=W->(Fs i gA gB gC gD ps k).length=k+1/\∀j∈Fs i gA gB gC gD ps k,j.n<18446744073709551616:=by
  intro k
  induction k with
  |zero=>intro _;exact⟨rfl,λj hj=>by
   have:j=jOf ps:=by simpa [Fs]using hj
   subst this;exact fH h1 h2⟩
  |succ k ih=>intro hk;obtain⟨a,b,_,_,ht⟩:=st k (by omega);obtain⟨e1,e2,_⟩:=p_ ht;exact⟨by rw[e1,(ih (by omega)).1],e2⟩
 refine⟨⟨rfl,λk hk=>(inv k hk).1,λk hk=>(inv k hk).2,λk hk=>?_⟩,by rw[e];congr 1;omega⟩;obtain⟨a,b,ea,eb,ht⟩:=st k hk;obtain⟨_,_,res,hr,ho⟩:=p_ ht;exact⟨res,by rw[<-ea,<-eb];exact hr,ho⟩
def Kq(i nL pi:Nat)(gA gB gC gD ps:Int)(W:Nat):Option (List J):=bif decide (ps=0)then some (List.replicate ((W+1)*nL) J.null)else(GA i gA gB gC gD W 0 [jOf ps]).bind λp=>some (Fq nL pi p (List.replicate ((W+1)*nL) J.null) (W+1))
def I9(N W nL nP i j U V pi:Nat)(gA gB gC gD ps:Int):Bool:=Nat.beq nP (N*N)&&(Nat.blt 0 N&&(Nat.ble N 10000&&(Nat.ble W 1000&&(Nat.ble nL 10000&&(Nat.ble i 1000&&(Nat.blt j nL&&(Nat.ble U 10000&&(Nat.ble V 10000&&(Nat.blt pi nL&&(Nat.ble ((W+1)*nL) 1000000&&(inI gA&&(inI gB&&(inI gC&&(inI gD&&inI ps))))))))))))))
def I_(args:List AVal)(H:AH):Option (List J):=
 match args with
 |[.ptr t o,x,y,.agg [a,b,c,d]]=>
  (natI x).bind λi=>(natI y).bind λj=>(intI a).bind λgA=>(intI b).bind λgB=>(intI c).bind λgC=>(intI d).bind λgD=>
  (natI (loadAt H false 1 t o)).bind λN=>(natI (loadAt H false 1 t (o+1))).bind λW=>
  (slcOf (loadAt H false 1 t (o+2))).bind λl=>(slcOf (loadAt H false 1 t (o+3))).bind λq=>
  (natI (loadAt H false 1 l.1 (l.2.1+j*3))).bind λU=>(natI (loadAt H false 1 l.1 (l.2.1+(j*3+1)))).bind λV=>
  (natI (loadAt H false 1 q.1 (q.2.1+FJ N (U*(gA%N)+V*(gC%N)) (U*(gB%N)+V*(gD%N))*2))).bind λpi=>
  (intI (loadAt H false 1 q.1 (q.2.1+(FJ N (U*(gA%N)+V*(gC%N)) (U*(gB%N)+V*(gD%N))*2+1)))).bind λps=>
  bif I9 N W l.2.2 q.2.2 i j U V pi gA gB gC gD ps then Kq i l.2.2 pi gA gB gC gD ps W else none
 |_=>none
theorem zg{P:Program}{ρ:Rho}{ω:Nat->Value}{H:AH}{w:World}(hr:HR P ρ ω H w){id:Pth}{i:BI}(hi:ρ id=some i){off:Nat}{n:Int}(h:intI (loadAt H false 1 id off)=some n):w.cell? ⟨i.blk,i.base+off,none⟩=some (.int .i64 n)/\i.blk<w.heap.size:=by have e:=fI h;obtain⟨u,h1,h2,h3⟩:=lI hr hi e (by intro h;cases h);rw[aZ h2]at h1;exact⟨h1,h3⟩
theorem fJ{P:Program}{ρ:Rho}{ω:Nat->Value}{H:AH}{w:World}(hr:HR P ρ ω H w){id:Pth}{i:BI}(hi:ρ id=some i){off:Nat}{n:Nat}(h:natI (loadAt H false 1 id off)=some n):w.cell? ⟨i.blk,i.base+off,none⟩=some (.int .i64 (n:Int))/\i.blk<w.heap.size:=by have e:=eC h;obtain⟨u,h1,h2,h3⟩:=lI hr hi e (by intro h;cases h);rw[aZ h2]at h1;exact⟨h1,h3⟩
theorem qb{P:Program}{ρ:Rho}{ω:Nat->Value}{H:AH}{w:World}(hr:HR P ρ ω H w){id:Pth}{i:BI}(hi:ρ id=some i){off:Nat}{r:Pth×Nat×Nat}(h:slcOf (loadAt H false 1 id off)=some r):∃b c,ρ r.1=some b/\w.cell? ⟨i.blk,i.base+off,none⟩=some (.slice (some ⟨b.blk,b.base+r.2.1,none⟩) r.2.2 c)/\i.blk<w.heap.size:=by obtain⟨u,h1,h2,h3⟩:=lI hr hi rfl (by intro e;rw[e]at h;cases h);obtain⟨b,c,hb,rfl,_⟩:=y_ h2 (show slcOf _=some (r.1,r.2.1,r.2.2)from h);exact⟨b,c,hb,h1,h3⟩
theorem zh{α β:Type}{R:α->β->Prop}{p q:α}{vals:List β}(h:All2 R [p,q] vals):∃u v,vals=[u,v]/\R p u/\R q v:=by
 cases h with
 |cons h t=>cases t with
  |cons h2 t=>cases t;exact⟨_,_,rfl,h,h2⟩
theorem qc{α β:Type}{R:α->β->Prop}{p q r s:α}{vals:List β}(h:All2 R [p,q,r,s] vals):∃u v x y,vals=[u,v,x,y]/\R p u/\R q v/\R r x/\R s y:=by
 cases h with
 |cons h t=>cases t with
  |cons h2 t=>obtain⟨x,y,rfl,h3,h4⟩:=zh t;exact⟨_,_,_,_,rfl,h,h2,h3,h4⟩
theorem zi:∃fn,Tryz.prog.funcs[118]?=some fn/\(fn.name== "runtime.NumGoroutine")=false/\fn.body.isNone=false:=⟨_,rfl,by decide,rfl⟩
theorem zj{ω:Nat->Value}{ρ:Rho}{args:List AVal}{H:AH}{w:World}{vals:List Value}{js:List J}(hr:HR Tryz.prog ρ ω H w)(hv:All2 (VR ρ ω) args vals)(hG:I_ args H=some js):Calls Tryz.prog 118 vals.toArray w λe w'=>(∃g xs,e=.returned (.slice (some ⟨g,0,none⟩) js.length js.length)/\w.heap.size<=g/\IBlk w.heap.size w' 50 g xs js)/\RowKit.Below w.heap.size w w':=by
 unfold I_ at hG;split at hG
 case h_2=>cases hG
 case h_1 t o x y a b c d=>
 simp only[Option.bind_eq_some_iff]at hG;obtain⟨i,hi,j,hj,gA,hA,gB,hB,gC,hC,gD,hD,N,hN,W,hW,l,hl,q,hq,U,hU,V,hV,pi,hpi,ps,hps,hG⟩:=hG;cases hc:I9 N W l.2.2 q.2.2 i j U V pi gA gB gC gD ps with
 |false=>rw[hc]at hG;cases hG
 |true=>
  rw[hc]at hG;simp only[cond]at hG;unfold I9 at hc;simp only[Bool.and_eq_true]at hc;obtain⟨c1,c2,c3,c4,c5,c6,c7,c8,c9,c10,c11,c12,c13,c14,c15,c16⟩:=hc;cases eC hi;cases eC hj;cases fI hA;cases fI hB;cases fI hC;cases fI hD;obtain⟨v1,v2,v3,v4,rfl,h1,h2,h3,h4⟩:=qc hv;cases aZ h2;cases aZ h3;cases h1 with
  |ptr _ _ bt hbt=>
  cases h4 with
  |agg _ vs hvs hone=>
  obtain⟨u1,u2,u3,u4,rfl,e1,e2,e3,e4⟩:=qc hvs;cases aZ e1;cases aZ e2;cases aZ e3;cases aZ e4;obtain⟨k0,hlt⟩:=fJ hr hbt hN;obtain⟨k1,_⟩:=fJ hr hbt hW;obtain⟨bl,cl,hbl,k2,_⟩:=qb hr hbt hl;obtain⟨bp,cp,hbp,k3,_⟩:=qb hr hbt hq;obtain⟨m0,hltL⟩:=fJ hr hbl hU;obtain⟨m1,_⟩:=fJ hr hbl hV;obtain⟨n0,hltP⟩:=fJ hr hbp hpi;obtain⟨n1,_⟩:=zg hr hbp hps;have W0:Wld w bt.blk (bt.base+o) N W bl.blk (bl.base+l.2.1) l.2.2 cl bp.blk (bp.base+q.2.1) q.2.2 cp:=⟨k0,k1,k2,k3,Nat.eq_of_beq_eq_true c1,hlt,hltL,hltP,au c2,Nat.le_of_ble_eq_true c3,Nat.le_of_ble_eq_true c4,Nat.le_of_ble_eq_true c5⟩;rw[<-Nat.add_assoc]at m0 m1 n0 n1;have key:=λ(P:Nat->List J) hP=>y8 W0 i j gA gB gC gD (Nat.le_of_ble_eq_true c6) (au c7) (cJ c12) (cJ c13) (cJ c14) (cJ c15) U V (Nat.le_of_ble_eq_true c8) (Nat.le_of_ble_eq_true c9) m0 m1 pi ps (au c10) (cJ c16) n0 n1 P hP (Nat.le_of_ble_eq_true c11)
  unfold Kq at hG;by_cases hz:ps=0
  .rw[show decide (ps=0)=true from decide_eq_true hz]at hG;obtain rfl:=Option.some.inj hG;have:=key (λ_=>[]) (λh=>absurd hz h);rw[if_pos hz]at this;exact this
  .rw[show decide (ps=0)=false from decide_eq_false hz]at hG;simp only[cond,Option.bind_eq_some_iff]at hG;obtain⟨p,hp,hG⟩:=hG;obtain rfl:=Option.some.inj hG;obtain⟨q1,q2⟩:=qa (cJ c16).1 (cJ c16).2 hp;have:=key _ (λ_=>q1);rw[if_neg hz,<-q2]at this;exact this
end Go.Ex
namespace Go.Ex
open Go Go.RowKit Go.Proofs Go.BI
def nI(v:AVal)(k:Nat->R):R:=aM v λn=>Int.rec (motive:=λ_=>(Nat->R)->R) (λm k=>k m) (λ_ _=>.no) n k
theorem cz{v:AVal}{k:Nat->R}{r:AVal}{H:AH}(h:nI v k=.ok r H):∃n,natI v=some n/\k n=.ok r H:=by
 obtain⟨n,rfl,h⟩:=a9 h;cases n with
 |ofNat m=>exact⟨m,rfl,h⟩
 |negSucc m=>cases h
theorem fK{v:AVal}{k:Int->R}{r:AVal}{H:AH}(h:aM v k=.ok r H):∃n,intI v=some n/\k n=.ok r H:=by obtain⟨n,rfl,h⟩:=a9 h;exact⟨n,rfl,h⟩
theorem qd{v:AVal}{k:Pth->Nat->Nat->R}{r:AVal}{H:AH}(h:slcF v k=.ok r H):∃q,slcOf v=some q/\k q.1 q.2.1 q.2.2=.ok r H:=by
 cases v with
 |sl id off len cap=>
  have h:Bool.rec (motive:=λ_=>R) .no (k id off len) (Nat.ble len cap)=.ok r H:=h;cases hb:Nat.ble len cap with
  |false=>rw[hb]at h;cases h
  |true=>rw[hb]at h;exact⟨(id,off,len),by show(bif Nat.ble len cap then _ else _)=_;rw[hb];rfl,h⟩
 |sg id off len e=>exact⟨(id,off,len),rfl,h⟩
 |_=>cases h
theorem qe(id:Pth)(off:Nat)(H:AH):l1 id off H=loadAt H false 1 id off:=dE H id off
def Fe(b:Bool)(k:R):R:=Bool.rec (motive:=λ_=>R) .no k b
theorem aA{b:Bool}{k:R}{r:AVal}{H:AH}(h:Fe b k=.ok r H):b=true/\k=.ok r H:=by
 cases b with
 |true=>exact⟨rfl,h⟩
 |false=>cases h
def F7(g:Int)(k:KJ):R:=Int.rec (motive:=λ_=>KJ->R) (λn k=>k false n (Nat.beq n 0)) (λn k=>k true (Nat.succ n) false) g k
theorem lJ(g:Int)(k:KJ):F7 g k=k (jOf g).s (jOf g).n (jOf g).z:=by cases g<;>rfl
def Ja(sa:Bool)(na:Nat)(za sb:Bool)(nb:Nat)(zb:Bool)(p:List J):Bool->Nat->Bool->(List J->R)->R:=List.rec (motive:=λ_=>Bool->Nat->Bool->(List J->R)->R) (λs n z c=>c [⟨s,n,z⟩]) (λq _ ih s n z c=>J.rec (motive:=λ_=>R) (λsq nq zq=>mulK sb nb zb sq nq zq λsy ny zy=>addK s n z sy ny zy λse ne ze=>fz ne λne=>Fe (Nat.ble ne 18446744073709551615) (mulK sa na za sq nq zq λsx nx zx=>fz nx λnx=>ih sx nx zx λl=>c (⟨se,ne,ze⟩::l))) q) p
theorem qf{sa za sb zb:Bool}{na nb:Nat}(p:List J):∀{s:Bool} {n:Nat} {z:Bool} {c:List J->R} {r:AVal} {H:AH},Ja sa na za sb nb zb p s n z c=.ok r H->∃out,G7 ⟨sa,na,za⟩ ⟨sb,nb,zb⟩ ⟨s,n,z⟩ p=some out/\c out=.ok r H:=by
 induction p with
 |nil=>intro s n z c r H h;exact⟨_,rfl,h⟩
 |cons q p ih=>intro s n z c r H h;obtain⟨sq,nq,zq⟩:=q;obtain⟨y,hy,h⟩:=fp sb nb zb sq nq zq _ _ _ h;obtain⟨e,he,h⟩:=o5 s n z y.s y.n y.z _ _ _ h;rw[aN]at h;obtain⟨hb,h⟩:=aA h;obtain⟨x,hx,h⟩:=fp sa na za sq nq zq _ _ _ h;rw[aN]at h;obtain⟨out,ho,h⟩:=ih h;refine⟨_,?_,h⟩;unfold G7;have hw:inW e.n=true:=Nat.ble_eq_true_of_le (Nat.succ_le_succ (Nat.le_of_ble_eq_true hb));rw[hy];show(jAdd ⟨s,n,z⟩ y).bind _=_;rw[he];show(bif inW e.n then _ else _)=_;rw[hw];show(jMul ⟨sa,na,za⟩ ⟨sq,nq,zq⟩).bind _=_;rw[hx];show(G7 _ _ x p).map _=_;rw[ho];rfl
def Kr(i:Nat)(gA gB gC gD:Int)(W k:Nat)(p:List J)(c:List J->R):R:=
 Nat.rec (motive:=λ_=>Nat->List J->(List J->R)->R) (λ_ p c=>c p) (λ_ ih k p c=>Bool.rec (motive:=λ_=>R)
  (F7 gC λsa na za=>F7 gD λsb nb zb=>Ja sa na za sb nb zb p false 0 true λq=>ih (Nat.succ k) q c)
  (F7 gA λsa na za=>F7 gB λsb nb zb=>Ja sa na za sb nb zb p false 0 true λq=>ih (Nat.succ k) q c) (Nat.blt k i)) W k p c
theorem zr{i:Nat}{gA gB gC gD:Int}(W:Nat):∀{k:Nat} {p:List J} {c:List J->R} {r:AVal} {H:AH},Kr i gA gB gC gD W k p c=.ok r H->∃q,GA i gA gB gC gD W k p=some q/\c q=.ok r H:=by
 induction W with
 |zero=>intro k p c r H h;exact⟨p,rfl,h⟩
 |succ W ih=>
  intro k p c r H h
  have h:Bool.rec (motive:=λ_=>R)
   (F7 gC λsa na za=>F7 gD λsb nb zb=>Ja sa na za sb nb zb p false 0 true λq=>Kr i gA gB gC gD W (Nat.succ k) q c)
   (F7 gA λsa na za=>F7 gB λsb nb zb=>Ja sa na za sb nb zb p false 0 true λq=>Kr i gA gB gC gD W (Nat.succ k) q c) (Nat.blt k i)=.ok r H:=h
  unfold GA;cases hb:Nat.blt k i with
  |true=>rw[hb]at h;simp only[lJ]at h;obtain⟨q,hq,h⟩:=qf p h;obtain⟨q2,hq2,h⟩:=ih h;exact⟨q2,by show(FB (jOf gA) (jOf gB) p).bind _=_;rw[show FB (jOf gA) (jOf gB) p=some q from hq];exact hq2,h⟩
  |false=>rw[hb]at h;simp only[lJ]at h;obtain⟨q,hq,h⟩:=qf p h;obtain⟨q2,hq2,h⟩:=ih h;exact⟨q2,by show(FB (jOf gC) (jOf gD) p).bind _=_;rw[show FB (jOf gC) (jOf gD) p=some q from hq];exact hq2,h⟩
def Ks(n:Nat)(z:Bool):AVal:=Bool.rec (motive:=λ_=>AVal) (.mag n) (Bool.rec (motive:=λ_=>AVal) .se .snil z) (Nat.beq n 0)
theorem zt(n:Nat)(z:Bool):Ks n z=magV n z:=by unfold Ks magV;cases Nat.beq n 0<;>cases z<;>rfl
def Ku(s:Bool)(n:Nat)(z:Bool):Bool:=Bool.rec (motive:=λ_=>Bool) (Bool.rec (motive:=λ_=>Bool) false z (Nat.beq n 0)) false s
theorem zu(j:J):Ku j.s j.n j.z=isNull j:=by obtain⟨s,n,z⟩:=j;unfold Ku isNull;cases s<;>cases Nat.beq n 0<;>rfl
def Kv(nL pi:Nat)(p:List J):Nat->T8 (List AVal)->(T8 (List AVal)->R)->R:=List.rec (motive:=λ_=>Nat->T8 (List AVal)->(T8 (List AVal)->R)->R) (λ_ e c=>c e) (λj _ ih k e c=>J.rec (motive:=λ_=>R) (λs n z=>Bool.rec (motive:=λ_=>R) ((putEc (keyF (Nat.add (Nat.mul k nL) pi))).run [.bool s,Ks n z] e λe=>ih (Nat.succ k) e c) (ih (Nat.succ k) e c) (Ku s n z)) j) p
def Ie(nL pi:Nat):List J->Nat->T8 (List AVal)->T8 (List AVal)
 |[],_,e=>e
 |j::l,k,e=>Ie nL pi l (Nat.succ k) (bif isNull j then e else e.put [] (rowJ j) (key (k*nL+pi)))
theorem zw(nL pi:Nat)(p:List J):∀(k:Nat) (e:T8 (List AVal)) (c:T8 (List AVal)->R),Kv nL pi p k e c=c (Ie nL pi p k e):=by
 induction p with
 |nil=>intro k e c;rfl
 |cons j p ih=>
  intro k e c;obtain⟨s,n,z⟩:=j;show Bool.rec (motive:=λ_=>R) ((putEc (keyF (Nat.add (Nat.mul k nL) pi))).run [.bool s,Ks n z] e λe=>Kv nL pi p (Nat.succ k) e c) (Kv nL pi p (Nat.succ k) e c) (Ku s n z)=_;rw[zu ⟨s,n,z⟩];unfold Ie;cases isNull ⟨s,n,z⟩with
  |true=>exact ih _ _ _
  |false=>simp only[gZ,cF,zt];exact ih _ _ _
theorem zz{nL pi:Nat}(hpi:pi<nL)(p js:List J){len:Nat}(hlen:js.length=len)(l:List J):∀(k:Nat) (e:T8 (List AVal)),p.drop k=l->(k+l.length)*nL<=len->(∀m,m<len->Go.Ex.elem m rowNull e=rowJ ((Fq nL pi p js k).getD m J.null))->(∀m,k*nL<=m->e.get [] (key m)=[])->∀m,m<len->Go.Ex.elem m rowNull (Ie nL pi l k e)=rowJ ((Fq nL pi p js (k+l.length)).getD m J.null):=by
 induction l with
 |nil=>intro k e _ _ h _ m hm;exact h m hm
 |cons j l ih=>
  intro k e hd hl h1 h2 m hm;have hj:p.getD k J.null=j:=by have:=congrArg (λq=>q[0]?) hd;simp only[List.getElem?_drop,Nat.add_zero]at this;rw[List.getD_eq_getElem?_getD,this];rfl
  have hd':p.drop (k+1)=l:=by rw[<-List.drop_drop,hd];rfl
  have e0:Nat.succ k=k+1:=rfl;have hpos:k*nL+pi<(k+1)*nL:=by rw[Nat.succ_mul];omega
  have hle:(k+1)*nL<=len:=Nat.le_trans (Nat.mul_le_mul_right _ (by simp only[List.length_cons];omega)) hl;unfold Ie;rw[show k+(j::l).length=Nat.succ k+l.length by simp only[List.length_cons];omega];refine ih (Nat.succ k) _ hd' (by rw[show Nat.succ k+l.length=k+(j::l).length by simp only[List.length_cons];omega];exact hl) (λq hq=>?_) (λq hq=>?_) m hm
  .have hg:(Fq nL pi p js (Nat.succ k)).getD q J.null=if k*nL+pi=q then j else(Fq nL pi p js k).getD q J.null:=by
    show((Fq nL pi p js k).set (k*nL+pi) (p.getD k J.null)).getD q J.null=_;rw[hj,List.getD_eq_getElem?_getD,List.getElem?_set];by_cases e:k*nL+pi=q
    .rw[if_pos e,if_pos e,if_pos (by rw[dN,hlen];omega)];rfl
    .rw[if_neg e,if_neg e,<-List.getD_eq_getElem?_getD]
   rw[hg];by_cases e:k*nL+pi=q
   .rw[if_pos e];subst e;unfold Go.Ex.elem;cases hn:isNull j with
    |true=>rw[show(bif true then e else T8.put [] (rowJ j) (key (k*nL+pi)) e)=e from rfl,h2 _ (by omega),lG hn];rfl
    |false=>rw[show(bif false then e else T8.put [] (rowJ j) (key (k*nL+pi)) e)=T8.put [] (rowJ j) (key (k*nL+pi)) e from rfl,aL];rfl
   .rw[if_neg e,<-h1 q hq];cases isNull j with
    |true=>rfl
    |false=>exact dT (λx=>e x.symm)
  .cases isNull j with
   |true=>exact h2 q (by rw[e0,Nat.succ_mul]at hq;omega)
   |false=>show(T8.put [] (rowJ j) (key (k*nL+pi)) e).get [] (key q)=[];rw[aG _ _ (λx=>by have:=key_inj x;rw[e0]at hq;omega)];exact h2 q (by rw[e0,Nat.succ_mul]at hq;omega)
def FE(g:Int)(n:Nat):Nat:=Int.rec (motive:=λ_=>Nat) (λm=>Nat.mod m n) (λm=>Nat.sub (Nat.sub n 1) (Nat.mod m n)) g
theorem iS(g:Int){n:Nat}(hn:0<n):g%(n:Int)=(FE g n:Int):=by
 cases g with
 |ofNat m=>rfl
 |negSucc m=>
  show Int.negSucc m%(n:Int)=((n-1-m%n:Nat):Int);have h1:m%n<n:=Nat.mod_lt _ hn;have h2:Int.negSucc m = -((m:Int)+1):=rfl;have h3:(m:Int)=(n:Int)*((m/n:Nat):Int)+((m%n:Nat):Int):=by exact_mod_cast (Nat.div_add_mod m n).symm
  rw[h2,h3,show -(((n:Int)*((m/n:Nat):Int)+((m%n:Nat):Int))+1)=((n-1-m%n:Nat):Int)+(n:Int)*(-((m/n:Nat):Int)-1) by rw[Int.mul_sub,Int.mul_neg];omega,Int.add_mul_emod_self_left];exact Int.emod_eq_of_lt (by omega) (by omega)
def Pg(N U V a b c d:Nat):Nat:=Nat.add (Nat.mul (Nat.mod (Nat.add (Nat.mul U a) (Nat.mul V c)) N) N) (Nat.mod (Nat.add (Nat.mul U b) (Nat.mul V d)) N)
theorem zA{N:Nat}(hN:0<N)(U V:Nat)(gA gB gC gD:Int):Pg N U V (FE gA N) (FE gB N) (FE gC N) (FE gD N)=FJ N (U*(gA%N)+V*(gC%N)) (U*(gB%N)+V*(gD%N)):=by
 unfold FJ;rw[iS gA hN,iS gB hN,iS gC hN,iS gD hN];generalize FE gA N=a;generalize FE gB N=b;generalize FE gC N=c;generalize FE gD N=d;have h:∀x y:Nat,(((U:Int)*(x:Int)+(V:Int)*(y:Int))%(N:Int)).toNat=(U*x+V*y)%N:=λx y=>by rw[show((U:Int)*(x:Int)+(V:Int)*(y:Int))=((U*x+V*y:Nat):Int) by push_cast;rfl,<-Int.natCast_emod,Int.toNat_natCast]
 rw[h a c,h b d];rfl
def Ig(n:Int):Bool:=Int.rec (motive:=λ_=>Bool) (λm=>Nat.ble m 9223372036854775807) (λm=>Nat.ble m 9223372036854775807) n
theorem zB(n:Int):Ig n=inI n:=by cases n<;>rfl
def Ph(i j:Nat)(gA gB gC gD:Int)(H:AH)(N W ln:Nat)(qid:Pth)(qo qn U V pl:Nat):R:=
 nI (l1 qid (Nat.add qo (Nat.mul pl 2)) H) λpi=>aM (l1 qid (Nat.add qo (Nat.add (Nat.mul pl 2) 1)) H) λps=>
 Fe (Nat.beq qn (Nat.mul N N)) <| Fe (Nat.ble N 10000) <| Fe (Nat.ble W 1000) <| Fe (Nat.ble ln 10000) <| Fe (Nat.ble i 1000) <| Fe (Nat.ble (Nat.succ j) ln) <| Fe (Nat.ble U 10000) <| Fe (Nat.ble V 10000) <| Fe (Nat.ble (Nat.succ pi) ln) <| Fe (Nat.ble (Nat.mul (Nat.succ W) ln) 1000000) <|
 Fe (Ig gA) <| Fe (Ig gB) <| Fe (Ig gC) <| Fe (Ig gD) <| Fe (Ig ps) <|
 Bool.rec (motive:=λ_=>R) (F7 ps λs n z=>Kr i gA gB gC gD W 0 [⟨s,n,z⟩] λp=>Kv ln pi p 0 .nil λe=>newHK H (.arr 2 (Nat.mul (Nat.succ W) ln) rowNull e) λid H=>.ok (.sg id 0 (Nat.mul (Nat.succ W) ln) 2) H)
  (newHK H (.arr 2 (Nat.mul (Nat.succ W) ln) rowNull .nil) λid H=>.ok (.sg id 0 (Nat.mul (Nat.succ W) ln) 2) H) (intEqF ps (.ofNat 0))
def Ih(p x y g:AVal)(H:AH):R:=
 asP p λt o=>nI x λi=>nI y λj=>aggF g λl=>l4F l λa b c d=>aM a λgA=>aM b λgB=>aM c λgC=>aM d λgD=>
 nI (l1 t o H) λN=>nI (l1 t (Nat.add o 1) H) λW=>slcF (l1 t (Nat.add o 2) H) λlid lo ln=>slcF (l1 t (Nat.add o 3) H) λqid qo qn=>
 nI (l1 lid (Nat.add lo (Nat.mul j 3)) H) λU=>nI (l1 lid (Nat.add lo (Nat.add (Nat.mul j 3) 1)) H) λV=>Fe (Nat.ble 1 N) <|
 fz (Pg N U V (FE gA N) (FE gB N) (FE gC N) (FE gD N)) λpl=>Ph i j gA gB gC gD H N W ln qid qo qn U V pl
theorem zC(W n:Nat):Nat.mul (Nat.succ W) n=(W+1)*n:=rfl
theorem zD{p x y g v:AVal}{H H':AH}(h:Ih p x y g H=.ok v H'):∃js els,I_ [p,x,y,g] H=some js/\v=.sg H.next 0 js.length 2/\H'=H.add (.arr 2 js.length rowNull els)/\(∀m (h:m<js.length),Go.Ex.elem m rowNull els=rowJ js[m])/\∀j∈js,j.n<18446744073709551616:=by
 obtain⟨t,o,rfl,h⟩:=fh h;obtain⟨i,hi,h⟩:=cz h;obtain⟨j,hj,h⟩:=cz h;obtain⟨l,rfl,h⟩:=di h;obtain⟨a,b,c,d,rfl,h⟩:=fl h;obtain⟨gA,hA,h⟩:=fK h;obtain⟨gB,hB,h⟩:=fK h;obtain⟨gC,hC,h⟩:=fK h;obtain⟨gD,hD,h⟩:=fK h;simp only[qe]at h;obtain⟨N,hN,h⟩:=cz h;obtain⟨W,hW,h⟩:=cz h;obtain⟨⟨lid,lo,ln⟩,hl,h⟩:=qd h;obtain⟨⟨qid,qo,qn⟩,hq,h⟩:=qd h;obtain⟨U,hU,h⟩:=cz h;obtain⟨V,hV,h⟩:=cz h;obtain⟨c0,h⟩:=aA h;have hN0:0<N:=Nat.le_of_ble_eq_true c0;rw[aN,zA hN0]at h;unfold Ph at h;simp only[qe]at h;obtain⟨pi,hpi,h⟩:=cz h;obtain⟨ps,hps,h⟩:=fK h;obtain⟨c1,h⟩:=aA h;obtain⟨c2,h⟩:=aA h;obtain⟨c3,h⟩:=aA h;obtain⟨c4,h⟩:=aA h;obtain⟨c5,h⟩:=aA h;obtain⟨c6,h⟩:=aA h;obtain⟨c7,h⟩:=aA h;obtain⟨c8,h⟩:=aA h;obtain⟨c9,h⟩:=aA h;obtain⟨c10,h⟩:=aA h;obtain⟨c11,h⟩:=aA h;obtain⟨c12,h⟩:=aA h;obtain⟨c13,h⟩:=aA h;obtain⟨c14,h⟩:=aA h;obtain⟨c15,h⟩:=aA h;rw[zB]at c11 c12 c13 c14 c15;rw[zC]at h c10;have hpl:pi<ln:=Nat.le_of_ble_eq_true c9;have hin:I9 N W ln qn i j U V pi gA gB gC gD ps=true:=by unfold I9;simp only[Bool.and_eq_true];exact⟨c1,c0,c2,c3,c4,c5,c6,c7,c8,c9,c10,c11,c12,c13,c14,c15⟩
 have hG:I_ [.ptr t o,x,y,.agg [a,b,c,d]] H=Kq i ln pi gA gB gC gD ps W:=by have hU:natI (loadAt H false 1 lid (lo+j*3))=some U:=hU;have hV:natI (loadAt H false 1 lid (lo+(j*3+1)))=some V:=hV;have hpi:natI (loadAt H false 1 qid (qo+FJ N (U*(gA%N)+V*(gC%N)) (U*(gB%N)+V*(gD%N))*2))=some pi:=hpi;have hps:intI (loadAt H false 1 qid (qo+(FJ N (U*(gA%N)+V*(gC%N)) (U*(gB%N)+V*(gD%N))*2+1)))=some ps:=hps;have hW:natI (loadAt H false 1 t (o+1))=some W:=hW;have hl:slcOf (loadAt H false 1 t (o+2))=some (lid,lo,ln):=hl;have hq:slcOf (loadAt H false 1 t (o+3))=some (qid,qo,qn):=hq;unfold I_;simp only[hi,hj,hA,hB,hC,hD,hN,hW,hl,hq,hU,hV,hpi,hps,Option.bind_some,hin,cond]
 rw[hG];unfold Kq;have hrep:∀m,m<(W+1)*ln->((List.replicate ((W+1)*ln) J.null).getD m J.null)=J.null:=λm hm=>by rw[List.getD_eq_getElem?_getD,List.getElem?_replicate,if_pos hm];rfl
 rw[gX]at h;cases hz:intEq ps (.ofNat 0)with
 |true=>
  rw[hz]at h;have e:ps=0:=by rw[bY]at hz;exact eq_of_beq hz
  rw[aX]at h;cases h;refine⟨List.replicate ((W+1)*ln) J.null,.nil,by rw[show decide (ps=0)=true from decide_eq_true e];rfl,?_,?_,λm hm=>?_,λq hq=>?_⟩
  .rw[List.length_replicate]
  .rw[List.length_replicate]
  .rw[List.getElem_replicate];unfold Go.Ex.elem;rw[get_nil];rfl
  .rw[(List.mem_replicate.1 hq).2];decide
 |false=>
  rw[hz]at h;have e:ps≠0:=by intro e;subst e;cases hz
  simp only[lJ]at h;obtain⟨p,hp,h⟩:=zr W h;rw[zw,aX]at h;cases h;obtain⟨q1,q2⟩:=qa (cJ c15).1 (cJ c15).2 hp;have hlen:p.length=W+1:=by rw[q2];exact q1.len W (Nat.le_refl _)
  have hr:(List.replicate ((W+1)*ln) J.null).length=(W+1)*ln:=List.length_replicate;refine⟨Fq ln pi p (List.replicate ((W+1)*ln) J.null) (W+1),Ie ln pi p 0 .nil,?_,?_,?_,λm hm=>?_,λq hq=>?_⟩
  .rw[show decide (ps=0)=false from decide_eq_false e];show(GA i gA gB gC gD W 0 [jOf ps]).bind _=_;rw[hp];rfl
  .rw[dN,hr]
  .rw[dN,hr]
  .rw[dN,hr]at hm
   have:=zz hpl p (List.replicate ((W+1)*ln) J.null) hr p 0 .nil rfl (by rw[Nat.zero_add,hlen];exact Nat.le_refl _) (λm hm=>by
    unfold Go.Ex.elem;rw[get_nil];show _=rowJ ((List.replicate _ J.null).getD m J.null)
    rw[hrep m hm];rfl) (λm _=>get_nil [] _) m hm
   rw[Nat.zero_add,hlen]at this;rw[this,List.getD_eq_getElem?_getD,List.getElem?_eq_getElem (by rw[dN,hr];exact hm)];rfl
  .have key:∀k,∀q∈Fq ln pi p (List.replicate ((W+1)*ln) J.null) k,q.n<18446744073709551616:=by
    intro k
    induction k with
    |zero=>intro q hq;rw[(List.mem_replicate.1 hq).2];decide
    |succ k ih=>
     intro q hq;rcases List.mem_or_eq_of_mem_set hq with h|rfl
     .exact ih q h
     .rw[List.getD_eq_getElem?_getD];cases hg:p[k]? with
      |none=>decide
      |some a=>rw[q2]at hg;exact q1.lim W (Nat.le_refl _) a (List.mem_of_getElem? hg)
   exact key _ q hq
def ar4(f:AVal->AVal->AVal->AVal->AH->R)(args:List AVal)(H:AH):R:=consA args λa l=>consA l λb l=>consA l λc l=>consA l λd l=>nilA l (f a b c d H)
theorem zE{f:AVal->AVal->AVal->AVal->AH->R}{args:List AVal}{H H':AH}{v:AVal}(h:ar4 f args H=.ok v H'):∃a b c d,args=[a,b,c,d]/\f a b c d H=.ok v H':=by
 match args,h with
 |[a,b,c,d],h=>exact⟨a,b,c,d,rfl,h⟩
 |[],h=>cases h
 |[a],h=>cases h
 |[a,b],h=>cases h
 |[a,b,c],h=>cases h
 |a::b::c::d::e::l,h=>cases h
theorem zF{ω:Nat->Value}:OrcOk Tryz.prog ω 118 (natK (ar4 Ih)):=by refine zp zi ?_;intro ρ args H w vals v H' hr hv h;obtain⟨a,b,c,d,rfl,h⟩:=zE h;obtain⟨js,els,h1,h2,h3,h4,h5⟩:=zD h;exact⟨js,els,_,h2,h3,h4,h5,zj hr hv h1⟩
end Go.Ex
namespace Go.Ex
open Go
variable{P:Program}{ω:Nat->Value}
theorem zG(g:List AVal->AH->R)(args:List AVal)(H:AH):orc1 (natK g) args H=g args H:=rfl
theorem qg{f:Nat}{g:List AVal->AH->R}(h:∀args H v H',g args H=.ok v H'->∃o,OrcOk P ω f o/\orc1 o args H=.ok v H'):OrcOk P ω f (natK g):=by intro args H v H' ρ w vals hone hr hg hv;obtain⟨o,ho,h1⟩:=h args H v H' hone;exact ho h1 hr hg hv
theorem qh{T:T8 CFn}(hω:∀i,(ω i).oneCell'=true)(hm:P.follows .mixedOrders=true)(hT:TabOk P ω T){f:Nat}{o:Orc}{q:Pth}(hq:q=key P.globals.size)(hnat:o.nat=none)(hex:o.ex=none){k:List AVal->AH->R}(hA:Adq T (key f) k)(hk:(o.args.all flat2&&(roFlat q o.ro&&keysDiff o.objs))=true)(hres:isRes o (k o.args (preHeap q o))=true):OrcOk P ω f o:=by
 cases hr:k o.args (preHeap q o)with
 |no=>rw[hr]at hres;cases hres
 |ok v H=>obtain⟨n,hn⟩:=hA _ _ _ _ hr;refine vz hω hm hT (n:=n) hq hnat hex hk ?_;rw[hn n (Nat.le_refl _),<-hr];exact hres
def R7:AObj->T8 (List AVal)
 |.arr _ _ _ e=>e
 |_=>.nil
def Pj(r:R):T8 (List AVal):=R.rec (motive:=λ_=>T8 (List AVal)) .nil (λ_ H=>T8.rec (motive_1:=λ_=>T8 (List AVal)) (motive_2:=λ_=>Unit) .nil (λo _ _=>R7 o) e8 H.m) r
def Pk(t:T8 (List AVal)):R:=.ok .pnil ⟨.e,.node (.arr 0 0 [] t) nil8⟩
def FM(rows:List (List AVal)):T8 (List AVal):=Pj (putElsC 0 rows .nil Pk)
theorem zH(rows:List (List AVal)):∀(j:Nat) (t:T8 (List AVal)),putEls j rows t=tree0 j rows t:=by
 induction rows with
 |nil=>intro j t;rfl
 |cons r rows ih=>intro j t;exact ih _ _
theorem lK(rows:List (List AVal)):FM rows=tree0 0 rows .nil:=by unfold FM;rw[dg,zH];rfl
theorem zI(θ:List (Pth×Pth)){r:List AVal}(h:r.all flat1=true):ren1s θ r=r:=by
 induction r with
 |nil=>rfl
 |cons a r ih=>
  simp only[List.all_cons,Bool.and_eq_true]at h;have ha:ren1 θ a=a:=by cases a<;>first|rfl|cases h.1
  show ren1 θ a::ren1s θ r=a::r;rw[ha,ih h.2]
theorem zJ(θ:List (Pth×Pth)){rows:List (List AVal)}(h:rows.all (λr=>r.all flat1)=true):∀(j:Nat) (t:T8 (List AVal)),treeRows θ j rows t=tree0 j rows t:=by
 induction rows with
 |nil=>intro j t;rfl
 |cons r rows ih=>intro j t;simp only[List.all_cons,Bool.and_eq_true]at h;show treeRows θ (Nat.succ j) rows (t.put [] (ren1s θ r) (key j))=tree0 (Nat.succ j) rows (t.put [] r (key j));rw[zI θ h.1,ih h.2]
theorem lM(θ:List (Pth×Pth)){esz:Nat}{rows:List (List AVal)}(h:rows.all (λr=>r.all flat1)=true):instO θ (.arr esz rows)=.arr esz (lenR rows) [] (FM rows):=by show AObj.arr esz (lenR rows) [] (treeRows θ 0 rows .nil)=_;rw[zJ θ h,lK]
def FG:List (Nat×List Nat):=[(1,[0]),
 (2,[1,64,65]),
 (3,[1,64,65,66]),
 (4,[1,64,65,66,67,129]),
 (5,[1,64,65,66,67,68]),
 (6,[1,64,65,66,67,68,69,129,131,133,193,194]),
 (7,[1,64,65,66,67,68,69,70]),
 (8,[1,64,65,66,67,68,69,70,71,129,131,257]),
 (9,[1,64,65,66,67,68,69,70,71,72,193,194]),
 (10,[1,64,65,66,67,68,69,70,71,72,73,129,131,133,135,137,321,322]),
 (11,[1,64,65,66,67,68,69,70,71,72,73,74]),
 (12,[1,64,65,66,67,68,69,70,71,72,73,74,75,129,131,133,193,194,196,199,257,259,261,385]),
 (13,[1,64,65,66,67,68,69,70,71,72,73,74,75,76]),
 (14,[1,64,65,66,67,68,69,70,71,72,73,74,75,76,77,129,131,133,135,137,139,141,449,450]),
 (15,[1,64,65,66,67,68,69,70,71,72,73,74,75,76,77,78,193,194,196,197,200,321,322,323]),
 (16,[1,64,65,66,67,68,69,70,71,72,73,74,75,76,77,78,79,129,131,133,135,257,259,513]),
 (17,[1,64,65,66,67,68,69,70,71,72,73,74,75,76,77,78,79,80]),
 (18,[1,64,65,66,67,68,69,70,71,72,73,74,75,76,77,78,79,80,81,129,131,133,135,137,139,141,143,145,193,194,196,197,385,389,577,578]),
 (19,[1,64,65,66,67,68,69,70,71,72,73,74,75,76,77,78,79,80,81,82]),
 (20,[1,64,65,66,67,68,69,70,71,72,73,74,75,76,77,78,79,80,81,82,83,129,131,133,135,137,257,259,261,263,265,321,322,323,324,641]),
 (21,[1,64,65,66,67,68,69,70,71,72,73,74,75,76,77,78,79,80,81,82,83,84,193,194,196,197,199,202,205,449,450,451]),
 (22,[1,64,65,66,67,68,69,70,71,72,73,74,75,76,77,78,79,80,81,82,83,84,85,129,131,133,135,137,139,141,143,145,147,149,705,706]),
 (23,[1,64,65,66,67,68,69,70,71,72,73,74,75,76,77,78,79,80,81,82,83,84,85,86]),
 (24,[1,64,65,66,67,68,69,70,71,72,73,74,75,76,77,78,79,80,81,82,83,84,85,86,87,129,131,133,135,137,139,193,194,196,197,199,200,203,206,257,259,261,385,391,513,515,517,769]),
 (25,[1,64,65,66,67,68,69,70,71,72,73,74,75,76,77,78,79,80,81,82,83,84,85,86,87,88,321,322,323,324]),
 (26,[1,64,65,66,67,68,69,70,71,72,73,74,75,76,77,78,79,80,81,82,83,84,85,86,87,88,89,129,131,133,135,137,139,141,143,145,147,149,151,153,833,834]),
 (27,[1,64,65,66,67,68,69,70,71,72,73,74,75,76,77,78,79,80,81,82,83,84,85,86,87,88,89,90,193,194,196,197,199,200,577,578]),
 (28,[1,64,65,66,67,68,69,70,71,72,73,74,75,76,77,78,79,80,81,82,83,84,85,86,87,88,89,90,91,129,131,133,135,137,139,141,257,259,261,263,265,267,269,449,450,451,452,897]),
 (29,[1,64,65,66,67,68,69,70,71,72,73,74,75,76,77,78,79,80,81,82,83,84,85,86,87,88,89,90,91,92]),
 (31,[1,64,65,66,67,68,69,70,71,72,73,74,75,76,77,78,79,80,81,82,83,84,85,86,87,88,89,90,91,92,93,94]),
 (32,[1,64,65,66,67,68,69,70,71,72,73,74,75,76,77,78,79,80,81,82,83,84,85,86,87,88,89,90,91,92,93,94,95,129,131,133,135,137,139,141,143,257,259,261,263,513,515,1025]),
 (33,[1,64,65,66,67,68,69,70,71,72,73,74,75,76,77,78,79,80,81,82,83,84,85,86,87,88,89,90,91,92,93,94,95,96,193,194,196,197,199,200,202,203,206,209,212,705,706,707]),
 (35,[1,64,65,66,67,68,69,70,71,72,73,74,75,76,77,78,79,80,81,82,83,84,85,86,87,88,89,90,91,92,93,94,95,96,97,98,321,322,323,324,326,327,332,449,450,451,452,453]),
 (37,[1,64,65,66,67,68,69,70,71,72,73,74,75,76,77,78,79,80,81,82,83,84,85,86,87,88,89,90,91,92,93,94,95,96,97,98,99,100]),
 (41,[1,64,65,66,67,68,69,70,71,72,73,74,75,76,77,78,79,80,81,82,83,84,85,86,87,88,89,90,91,92,93,94,95,96,97,98,99,100,101,102,103,104]),
 (43,[1,64,65,66,67,68,69,70,71,72,73,74,75,76,77,78,79,80,81,82,83,84,85,86,87,88,89,90,91,92,93,94,95,96,97,98,99,100,101,102,103,104,105,106]),
 (47,[1,64,65,66,67,68,69,70,71,72,73,74,75,76,77,78,79,80,81,82,83,84,85,86,87,88,89,90,91,92,93,94,95,96,97,98,99,100,101,102,103,104,105,106,107,108,109,110])]
def R8:List (Int×Nat×List Nat):=[((.negSucc 22),23,[0,1,1,1,1,2,1,2,1,1,2,2,1,1,2,2,1,2,1,2,2,2,2]),
 ((.negSucc 18),19,[0,1,2,2,1,1,1,1,2,1,2,1,2,2,2,2,1,1,2]),
 ((.negSucc 14),15,[0,1,1,0,1,0,0,2,1,0,0,2,0,2,2]),
 ((.negSucc 10),11,[0,1,2,1,1,1,2,2,2,1,2]),
 ((.negSucc 7),8,[0,1,0,1,0,2,0,2]),
 ((.negSucc 6),7,[0,1,1,2,1,2,2]),
 ((.negSucc 3),4,[0,1,0,2]),
 ((.negSucc 2),3,[0,1,2]),
 ((.ofNat 5),5,[0,1,2,2,1]),
 ((.ofNat 8),8,[0,1,0,2,0,2,0,1]),
 ((.ofNat 12),12,[0,1,0,0,0,2,0,2,0,0,0,1]),
 ((.ofNat 13),13,[0,1,2,1,1,2,2,2,2,1,1,2,1]),
 ((.ofNat 17),17,[0,1,1,2,1,2,2,2,1,1,2,2,2,1,2,1,1]),
 ((.ofNat 21),21,[0,1,2,0,1,1,0,0,2,0,2,2,0,2,0,0,1,1,0,2,1]),
 ((.ofNat 24),24,[0,1,0,0,0,1,0,2,0,0,0,2,0,2,0,0,0,2,0,1,0,0,0,1]),
 ((.ofNat 28),28,[0,1,0,1,0,2,0,0,0,1,0,2,0,2,0,2,0,2,0,1,0,0,0,2,0,1,0,1]),
 ((.ofNat 29),29,[0,1,2,2,1,1,1,1,2,1,2,2,2,1,2,2,1,2,2,2,1,2,1,1,1,1,2,2,1]),
 ((.ofNat 33),33,[0,1,1,0,1,2,0,2,1,0,2,0,0,2,2,0,1,1,0,2,2,0,0,2,0,1,2,0,2,1,0,1,1]),
 ((.ofNat 37),37,[0,1,2,1,1,2,2,1,2,1,1,1,1,2,2,2,1,2,2,2,2,1,2,2,2,1,1,1,1,2,1,2,2,1,1,2,1]),
 ((.ofNat 41),41,[0,1,1,2,1,1,2,2,1,1,1,2,2,2,2,2,1,2,1,2,1,1,2,1,2,1,2,2,2,2,2,1,1,1,2,2,1,1,2,1,1])]
def Fc:List (Nat×Nat×Int):=[(1,2,(.ofNat 1)),(1,4,(.ofNat 1)),(1,6,(.ofNat 1)),(1,8,(.ofNat 1)),(1,10,(.ofNat 1)),(1,12,(.ofNat 1)),(1,14,(.ofNat 1)),(1,16,(.ofNat 1)),(1,18,(.ofNat 1)),(1,20,(.ofNat 1)),(1,22,(.ofNat 1)),(1,24,(.ofNat 1)),(2,2,(.ofNat 1)),(2,4,(.ofNat 1)),(2,6,(.ofNat 1)),(2,8,(.ofNat 1)),(2,10,(.ofNat 1)),(2,12,(.ofNat 1)),(2,14,(.ofNat 1)),(2,16,(.ofNat 1)),(3,2,(.ofNat 1)),(3,3,(.negSucc 2)),(3,4,(.ofNat 1)),(3,5,(.negSucc 2)),(3,6,(.ofNat 1)),(3,7,(.negSucc 2)),(3,8,(.ofNat 1)),(3,9,(.negSucc 2)),(3,10,(.ofNat 1)),(3,11,(.negSucc 2)),(3,12,(.ofNat 1)),(3,13,(.negSucc 2)),(4,2,(.ofNat 1)),(4,3,(.negSucc 3)),(4,4,(.ofNat 1)),(4,5,(.negSucc 3)),(4,6,(.ofNat 1)),(4,7,(.negSucc 3)),(4,8,(.ofNat 1)),(4,9,(.negSucc 3)),(5,2,(.ofNat 1)),(5,2,(.ofNat 5)),(5,4,(.ofNat 1)),(5,4,(.ofNat 5)),(5,6,(.ofNat 1)),(5,6,(.ofNat 5)),(5,8,(.ofNat 1)),(5,8,(.ofNat 5)),(6,2,(.ofNat 1)),(6,3,(.negSucc 2)),(6,4,(.ofNat 1)),(6,5,(.negSucc 2)),(7,2,(.ofNat 1)),(7,3,(.negSucc 6)),(7,4,(.ofNat 1)),(7,5,(.negSucc 6)),(7,6,(.ofNat 1)),(7,7,(.negSucc 6)),(8,2,(.ofNat 1)),(8,2,(.ofNat 8)),(8,3,(.negSucc 7)),(8,3,(.negSucc 3)),(8,4,(.ofNat 1)),(8,4,(.ofNat 8)),(8,5,(.negSucc 7)),(8,5,(.negSucc 3)),(9,2,(.ofNat 1)),(9,3,(.negSucc 2)),(9,4,(.ofNat 1)),(9,5,(.negSucc 2)),(10,2,(.ofNat 1)),(10,2,(.ofNat 5)),(11,2,(.ofNat 1)),(11,3,(.negSucc 10)),(11,4,(.ofNat 1)),(11,5,(.negSucc 10)),(12,2,(.ofNat 1)),(12,2,(.ofNat 12)),(12,3,(.negSucc 3)),(12,3,(.negSucc 2)),(13,2,(.ofNat 1)),(13,2,(.ofNat 13)),(13,4,(.ofNat 1)),(13,4,(.ofNat 13)),(14,2,(.ofNat 1)),(14,3,(.negSucc 6)),(15,2,(.ofNat 1)),(15,2,(.ofNat 5)),(15,3,(.negSucc 14)),(15,3,(.negSucc 2)),(16,2,(.ofNat 1)),(16,2,(.ofNat 8)),(16,3,(.negSucc 7)),(16,3,(.negSucc 3)),(17,2,(.ofNat 1)),(17,2,(.ofNat 17)),(18,2,(.ofNat 1)),(19,2,(.ofNat 1)),(19,3,(.negSucc 18)),(20,2,(.ofNat 1)),(20,2,(.ofNat 5)),(21,2,(.ofNat 1)),(21,2,(.ofNat 21)),(22,2,(.ofNat 1)),(23,2,(.ofNat 1)),(23,3,(.negSucc 22)),(24,2,(.ofNat 1)),(24,2,(.ofNat 8)),(24,2,(.ofNat 12)),(24,2,(.ofNat 24)),(25,2,(.ofNat 1)),(25,2,(.ofNat 5)),(26,2,(.ofNat 1)),(26,2,(.ofNat 13)),(27,2,(.ofNat 1)),(28,2,(.ofNat 1)),(28,2,(.ofNat 28)),(29,2,(.ofNat 1)),(29,2,(.ofNat 29)),(31,2,(.ofNat 1)),(32,2,(.ofNat 1)),(32,2,(.ofNat 8)),(33,2,(.ofNat 1)),(33,2,(.ofNat 33)),(35,2,(.ofNat 1)),(35,2,(.ofNat 5)),(37,2,(.ofNat 1)),(37,2,(.ofNat 37)),(41,2,(.ofNat 1)),(41,2,(.ofNat 41)),(43,2,(.ofNat 1)),(47,2,(.ofNat 1))]
def Mk(t:List (Nat×List Nat))(n:Nat):List Nat:=List.rec (motive:=λ_=>List Nat) [] (λp _ ih=>Bool.rec (motive:=λ_=>List Nat) ih p.2 (Nat.beq p.1 n)) t
theorem zK{t:List (Nat×List Nat)}{n p:Nat}{l:List Nat}(h:Mk t n=p::l):n∈t.map (·.1):=by
 induction t with
 |nil=>cases h
 |cons x t ih=>
  have h:Bool.rec (motive:=λ_=>List Nat) (Mk t n) x.2 (Nat.beq x.1 n)=p::l:=h;cases hb:Nat.beq x.1 n with
  |true=>exact List.mem_cons.2 (.inl (Nat.eq_of_beq_eq_true hb).symm)
  |false=>rw[hb]at h;exact List.mem_cons.2 (.inr (ih h))
def Kw(n:Nat):List Nat:=Mk FG n
def R9(p:Nat):List AVal:=[.int .i64 (.ofNat (Nat.div p 64)),.int .i64 (.ofNat (Nat.mod p 64)),.int .i64 (.ofNat 1)]
def Fh(n:Nat):List (List AVal):=List.rec (motive:=λ_=>List (List AVal)) [] (λp _ ih=>R9 p::ih) (Kw n)
theorem qi(n:Nat):(Fh n).all (λr=>r.all flat1)=true:=by
 unfold Fh
 induction Kw n with
 |nil=>rfl
 |cons p l ih=>exact Bool.and_eq_true_iff.2 ⟨rfl,ih⟩
theorem zL{n:Nat}{r:List AVal}{l:List (List AVal)}(h:Fh n=r::l):n∈FG.map (·.1):=by
 unfold Fh at h;cases hp:Kw n with
 |nil=>rw[hp]at h;cases h
 |cons p t=>exact zK hp
def F8:AVal:=.int .i64 (.ofNat 0)
def Kx(n:Nat)(c:Pth):Orc:=⟨[.int .i64 (.ofNat n)],[],[(c,.arr 3 (Fh n))],.tup [.sg c 0 (lenR (Fh n)) 3,F8],none,none⟩
def Ky(x:AVal)(H:AH):R:=nI x λn=>fz (lenR (Fh n)) λln=>Nat.rec (motive:=λ_=>R) .no (λ_ _=>newHK H (.arr 3 ln [] (FM (Fh n))) λid H=>.ok (.tup [.sg id 0 ln 3,F8]) H) ln
theorem iT(c p:Pth)(l:List (Pth×Pth)):lk ((c,p)::l) c=some p:=by show(bif pthEq c c then some p else lk l c)=some p;rw[aD.2 rfl];rfl
theorem lN{c c':Pth}(p:Pth)(l:List (Pth×Pth))(h:pthEq c c'=false):lk ((c,p)::l) c'=lk l c':=by show(bif pthEq c c' then some p else lk l c')=lk l c';rw[h];rfl
theorem zM(n:Nat):(AVal.int .i64 (.ofNat n)).eqv (.int .i64 (.ofNat n))=true:=by simp[AVal.eqv,AVal.eq1,kindEq,intEq]
theorem zN{f:Nat}(hk:∀n,n∈FG.map (·.1)->∃c,OrcOk P ω f (Kx n c)):OrcOk P ω f (natK (ar1 Ky)):=by
 refine qg λargs H v H' h=>?_
 obtain⟨x,l,rfl,h1⟩:=aQ (show consA args (λa l=>nilA l (Ky a H))=.ok v H' from h);obtain⟨rfl,h2⟩:=cg h1;obtain⟨n,hx,h3⟩:=cz (show nI x (λn=>fz (lenR (Fh n)) λln=>Nat.rec (motive:=λ_=>R) .no (λ_ _=>newHK H (.arr 3 ln [] (FM (Fh n))) λid H=>.ok (.tup [.sg id 0 ln 3,F8]) H) ln)=.ok v H' from h2);have hx:=eC hx;subst hx;clear h h1 h2;have h:=h3;clear h3;rw[aN]at h;cases hr:Fh n with
 |nil=>rw[hr]at h;cases h
 |cons r t=>
  obtain⟨c,ho⟩:=hk n (zL hr);refine⟨_,ho,?_⟩;have hl:lenR (Fh n)=Nat.succ (lenR t):=by rw[hr];rfl
  rw[hl]at h;have h:newHK H (.arr 3 (Nat.succ (lenR t)) [] (FM (Fh n))) (λid H=>.ok (.tup [.sg id 0 (Nat.succ (lenR t)) 3,F8]) H)=.ok v H':=h;rw[aX,<-hl]at h;rw[<-h];show(bif (eqVs [AVal.int .i64 (.ofNat n)] [.int .i64 (.ofNat n)]&&(true&&true))then give (Kx n c) H else .no)=_;have e1:eqVs [AVal.int .i64 (.ofNat n)] [.int .i64 (.ofNat n)]=true:=(congrArg (·&&true) (zM n)).trans rfl;rw[e1];show R.ok (.tup [ren2 [(c,H.next)] (.sg c 0 (lenR (Fh n)) 3),F8]) (H.add (instO [(c,H.next)] (.arr 3 (Fh n))))=_;rw[lM _ (qi n)];have e2:ren2 [(c,H.next)] (.sg c 0 (lenR (Fh n)) 3)=.sg H.next 0 (lenR (Fh n)) 3:=by show(match lk [(c,H.next)] c with|some a=>AVal.sg a 0 (lenR (Fh n)) 3|none=>.bad)=_;rw[iT]
  rw[e2]
def R_(l:List Nat)(i:Nat):Nat:=Nat.rec (motive:=λ_=>List Nat->Nat) (λl=>List.rec (motive:=λ_=>Nat) 0 (λa _ _=>a) l) (λ_ ih l=>List.rec (motive:=λ_=>Nat) 0 (λ_ t _=>ih t) l) i l
def Sa(d:Int)(l:Nat):Nat:=Bool.rec (motive:=λ_=>Nat) (List.rec (motive:=λ_=>Nat) 0 (λp _ ih=>Bool.rec (motive:=λ_=>Nat) ih (R_ p.2.2 (Nat.mod l p.2.1)) (intEqF p.1 d)) R8) 1 (intEqF d (.ofNat 1))
def Sb(c:Nat):Int:=Nat.rec (motive:=λ_=>Int) (.ofNat 0) (λc _=>Nat.rec (motive:=λ_=>Int) (.ofNat 1) (λ_ _=>.negSucc 0) c) c
def pl1(n l:Nat)(pts:List Nat)(s:AVal)(t:T8 (List AVal))(k:T8 (List AVal)->R):R:=List.rec (motive:=λ_=>Nat->T8 (List AVal)->R) (λ_ t=>k t) (λp _ ih j t=>fz j λj=>fz (Nat.add (Nat.mul (Nat.mod (Nat.mul l (Nat.div p 64)) n) n) (Nat.mod (Nat.mul l (Nat.mod p 64)) n)) λa=>(putEc (keyF a)).run [.int .i64 (.ofNat j),s] t λt=>ih (Nat.succ j) t) pts 0 t
def Sc(n:Nat)(d:Int):T8 (List AVal):=Pj (Nat.rec (motive:=λ_=>Nat->T8 (List AVal)->R) (λ_ t=>Pk t) (λ_ ih l t=>Bool.rec (motive:=λ_=>R) (fz (Nat.succ l) λl=>ih l t) (pl1 n l (Kw n) (.int .i64 (Sb (Sa d l))) t λt=>fz (Nat.succ l) λl=>ih l t) (Nat.beq (Nat.gcd l n) 1)) n 1 .nil)
def Sd(t:T8 (List AVal))(j:Nat):List AVal:=List.rec (motive:=λ_=>List AVal) [F8,F8] (λa l _=>a::l) ((getES (keyF j)).run t)
def Se(t:T8 (List AVal))(m:Nat):List (List AVal):=Nat.rec (motive:=λ_=>Nat->List (List AVal)) (λ_=>[]) (λ_ ih j=>Sd t j::ih (Nat.succ j)) m 0
def Fu(n:Nat)(d:Int):List (List AVal):=Se (Sc n d) (Nat.mul n n)
def Ii(ro:List (Pth×Nat×Nat×List AVal))(n k:Nat)(d:Int)(c1 c2 c3:Pth):Orc:=
 ⟨[.agg [.int .i64 (.ofNat n),.int .i64 (.ofNat k),.int .i64 d]],ro,[(c1,.arr 3 (Fh n)),(c2,.arr 2 (Fu n d)),
  (c3,.arr 4 [[.int .i64 (.ofNat n),.int .i64 (.ofNat (Nat.sub k 2)),.sg c1 0 (lenR (Fh n)) 3,.sl c2 0 (lenR (Fu n d)) (lenR (Fu n d))]])],.tup [.ptr c3 0,F8],none,none⟩
def GB(t:List (Nat×Nat×Int))(n k:Nat)(d:Int):Bool:=List.rec (motive:=λ_=>Bool) false (λp _ ih=>Bool.rec (motive:=λ_=>Bool) ih (Bool.rec (motive:=λ_=>Bool) ih (Bool.rec (motive:=λ_=>Bool) ih true (intEqF p.2.2 d)) (Nat.beq p.2.1 k)) (Nat.beq p.1 n)) t
theorem zO{a b:Int}(h:intEqF a b=true):a=b:=by rw[gX]at h;cases a<;>cases b<;>first|exact congrArg _ (Nat.eq_of_beq_eq_true h)|cases h
theorem zP{t:List (Nat×Nat×Int)}{n k:Nat}{d:Int}(h:GB t n k d=true):(n,k,d)∈t:=by
 induction t with
 |nil=>cases h
 |cons p t ih=>
  obtain⟨a,b,c⟩:=p;have h:Bool.rec (motive:=λ_=>Bool) (GB t n k d) (Bool.rec (motive:=λ_=>Bool) (GB t n k d) (Bool.rec (motive:=λ_=>Bool) (GB t n k d) true (intEqF c d)) (Nat.beq b k)) (Nat.beq a n)=true:=h;cases h1:Nat.beq a n with
  |false=>rw[h1]at h;exact List.mem_cons_of_mem _ (ih h)
  |true=>
   rw[h1]at h;have h:Bool.rec (motive:=λ_=>Bool) (GB t n k d) (Bool.rec (motive:=λ_=>Bool) (GB t n k d) true (intEqF c d)) (Nat.beq b k)=true:=h;cases h2:Nat.beq b k with
   |false=>rw[h2]at h;exact List.mem_cons_of_mem _ (ih h)
   |true=>
    rw[h2]at h;have h:Bool.rec (motive:=λ_=>Bool) (GB t n k d) true (intEqF c d)=true:=h;cases h3:intEqF c d with
    |false=>rw[h3]at h;exact List.mem_cons_of_mem _ (ih h)
    |true=>have e1:=Nat.eq_of_beq_eq_true h1;have e2:=Nat.eq_of_beq_eq_true h2;have e3:=zO h3;subst e1 e2 e3;exact List.mem_cons_self ..
def Pl(ro:List (Pth×Nat×Nat×List AVal))(n k:Nat)(d:Int)(H:AH):R:=
 Fe (GB Fc n k d) <| Fe (hasRo H ro) <| fz (Nat.sub k 2) λw=>fz (lenR (Fh n)) λln=>fz (lenR (Fu n d)) λnn=>
 newHK H (.arr 3 ln [] (FM (Fh n))) λi1 H=>newHK H (.arr 2 nn [] (FM (Fu n d))) λi2 H=>
 newHK H (.arr 4 1 [] (.node [.int .i64 (.ofNat n),.int .i64 (.ofNat w),.sg i1 0 ln 3,.sl i2 0 nn nn] nil8)) λi3 H=>.ok (.tup [.ptr i3 0,F8]) H
def Kz(ro:List (Pth×Nat×Nat×List AVal))(x:AVal)(H:AH):R:=aggF x λl=>consA l λa l=>consA l λb l=>consA l λc l=>nilA l <| nI a λn=>nI b λk=>aM c λd=>Pl ro n k d H
theorem zQ{f:Nat}{ro:List (Pth×Nat×Nat×List AVal)}(hk:∀n k d,(n,k,d)∈Fc->(Fu n d).all (λr=>r.all flat1)=true/\∃c1 c2 c3,(pthEq c1 c2=false/\pthEq c1 c3=false/\pthEq c2 c3=false)/\OrcOk P ω f (Ii ro n k d c1 c2 c3)):OrcOk P ω f (natK (ar1 (Kz ro))):=by
 refine qg λargs H v H' h=>?_
 obtain⟨x,l,rfl,h1⟩:=aQ (show consA args (λa l=>nilA l (Kz ro a H))=.ok v H' from h);obtain⟨rfl,h2⟩:=cg h1;obtain⟨l,rfl,h3⟩:=di h2;obtain⟨a,l1,rfl,h4⟩:=aQ h3;obtain⟨b,l2,rfl,h5⟩:=aQ h4;obtain⟨c,l3,rfl,h6⟩:=aQ h5;obtain⟨rfl,h7⟩:=cg h6;obtain⟨n,ha,h8⟩:=cz h7;obtain⟨k,hb,h9⟩:=cz h8;obtain⟨d,rfl,h10⟩:=a9 h9;have ha:=eC ha;have hb:=eC hb;subst ha hb;clear h h1 h2 h3 h4 h5 h6 h7 h8 h9;unfold Pl at h10;obtain⟨hs,h11⟩:=aA h10;obtain⟨hro,h12⟩:=aA h11;rw[aN,aN,aN,aX,aX,aX]at h12;clear h10 h11;obtain⟨hfl,c1,c2,c3,⟨d1,d2,d3⟩,ho⟩:=hk n k d (zP hs);refine⟨_,ho,?_⟩;rw[<-h12];show(bif (eqVs [AVal.agg [.int .i64 (.ofNat n),.int .i64 (.ofNat k),.int .i64 d]] [.agg [.int .i64 (.ofNat n),.int .i64 (.ofNat k),.int .i64 d]]&&(hasRo H ro&&true))then give (Ii ro n k d c1 c2 c3) H else .no)=_
 have e1:eqVs [AVal.agg [.int .i64 (.ofNat n),.int .i64 (.ofNat k),.int .i64 d]] [.agg [.int .i64 (.ofNat n),.int .i64 (.ofNat k),.int .i64 d]]=true:=by
  have hi:∀z:Int,intEq z z=true:=λz=>by cases z<;>exact Nat.beq_refl _
  have hq:∀z:Int,(AVal.int .i64 z).eq1 (.int .i64 z)=true:=λz=>(congrArg (true&&·) (hi z)).trans rfl
  show((AVal.int .i64 (.ofNat n)).eq1 (.int .i64 (.ofNat n))&&((AVal.int .i64 (.ofNat k)).eq1 (.int .i64 (.ofNat k))&&((AVal.int .i64 d).eq1 (.int .i64 d)&&true))&&true)=true;rw[hq,hq,hq];rfl
 rw[e1,hro]
 let θ:List (Pth×Pth):=[(c1,H.next),(c2,H.next.succ),(c3,H.next.succ.succ)]
 have k1:lk θ c1=some H.next:=iT _ _ _
 have k2:lk θ c2=some H.next.succ:=(lN _ _ d1).trans (iT _ _ _)
 have k3:lk θ c3=some H.next.succ.succ:=(lN _ _ d2).trans ((lN _ _ d3).trans (iT _ _ _))
 show R.ok (.tup [ren2 θ (.ptr c3 0),F8]) (((H.add (instO θ (.arr 3 (Fh n)))).add (instO θ (.arr 2 (Fu n d)))).add (instO θ (.arr 4 [[.int .i64 (.ofNat n),.int .i64 (.ofNat (Nat.sub k 2)),.sg c1 0 (lenR (Fh n)) 3,.sl c2 0 (lenR (Fu n d)) (lenR (Fu n d))]])))=_;rw[lM θ (qi n),lM θ hfl];have e3:ren2 θ (.ptr c3 0)=.ptr H.next.succ.succ 0:=by show(match lk θ c3 with|some a=>AVal.ptr a 0|none=>.bad)=_;rw[k3]
 have e4:instO θ (.arr 4 [[.int .i64 (.ofNat n),.int .i64 (.ofNat (Nat.sub k 2)),.sg c1 0 (lenR (Fh n)) 3,.sl c2 0 (lenR (Fu n d)) (lenR (Fu n d))]]) =
  .arr 4 1 [] (.node [.int .i64 (.ofNat n),.int .i64 (.ofNat (Nat.sub k 2)),.sg H.next 0 (lenR (Fh n)) 3,.sl H.next.succ 0 (lenR (Fu n d)) (lenR (Fu n d))] nil8):=by
  show AObj.arr 4 1 [] (T8.node [.int .i64 (.ofNat n),.int .i64 (.ofNat (Nat.sub k 2)),(match lk θ c1 with|some a=>AVal.sg a 0 (lenR (Fh n)) 3|none=>.bad),(match lk θ c2 with|some a=>AVal.sl a 0 (lenR (Fu n d)) (lenR (Fu n d))|none=>.bad)] nil8)=_;rw[k1,k2]
 rw[e3,e4];rfl
end Go.Ex
namespace Go.Ex.KB
open Go.BI
open Go.Ex.KD
def ro0:List (Pth×Nat×Nat×List AVal):=[(.e,64,1,tabL)]
def Jb:List Nf:=[nv d69 (ar1 nOf),nv d83 (ar1 (nJ normK)),nv d125 (ar1 (nJ negK)),nv d119 (ar1 nSg),nv d120 (ar2 (nJJ addK)),nv d229 (ar2 (nJJ subK)),nv d72 (ar2 (nJJ mulK)),nv d154 (ar2 (nJJ gcdK)),nv d52 (ar1 nqOf),nv d34 (ar1 nWh),nv d85 (ar1 (nQ ovrK)),nv d60 (ar1 (nQ qnegK)),nv d122 (ar1 nqSg),nv d88 (ar2 (nQQ qmulK)),nv d123 (ar2 (nQQ qaddK)),nv d63 (ar2 (nQQ qsubK)),nv d204 (ar2 ngcd),nv d124 (ar2 (nJJQ ovrK)),nv d153 (ar2 (nJJe exK)),nv d179 (ar1 nClo),nv d118 (ar4 Ih)]
def FN:T8 CFn:=putN Jb F0
def Sf:Orc:=natK (ar1 nOf)
def Sg:Orc:=natK (ar1 (nJ normK))
def Sh:Orc:=natK (ar1 (nJ negK))
def Si:Orc:=natK (ar1 nSg)
def Sj:Orc:=natK (ar2 (nJJ addK))
def Sk:Orc:=natK (ar2 (nJJ mulK))
def Sm:Orc:=natK (ar2 (nJJ gcdK))
def Sn:Orc:=natK (ar1 nqOf)
def Sp:Orc:=natK (ar1 (nQ ovrK))
def Sq:Orc:=natK (ar1 (nQ qnegK))
def Sr:Orc:=natK (ar1 nqSg)
def Ss:Orc:=natK (ar2 (nQQ qmulK))
def Su:Orc:=natK (ar2 (nQQ qaddK))
def Sv:Orc:=natK (ar2 (nQQ qsubK))
def Sw:Orc:=natK (ar2 (nJJQ ovrK))
def Sx:Orc:=natK (ar2 (nJJe exK))
def Sy:Orc:=natK (ar1 nClo)
@[irreducible] def Jc:List AVal->AH->R:=ar1 nOf
theorem qm:Adq FN q69 Jc:=by unfold Jc;exact Adq.nat (fn:=⟨d69.1.params,d69.1.body,d69.1.res,[Sf]⟩) (by kernel_rfl) rfl
attribute [local irreducible] seqT skipT retT exitT blockT loopT condT regT regcT rngT badT gV putV bin3 loadK faddrF iaddrF exF lenF convF pickF buildE nilF unV slcO fldG iaddrAF idxAV idxSV eqsV cmpF lensOf maxV minV lookupV stK rv bxP bsQ mkQ mkslP apK copyE mapupV pv mv gd gdJ gdR gdM gdL resE consA nilA entF cv chkK mkK setHK boxV bslP recK succF
def Pm:{B:Caller->KF // B=λd=>tK (selC [] d) d145.1}:=⟨_,by conv=>rhs;reduce⟩
@[irreducible] def FO:KF:=Pm.1 noC
theorem cA:Adq FN q145 FO:=by unfold FO;rw[Pm.2];exact Adq.tree (fn:=d145.1) (by kernel_rfl) rfl (ae AdqL.nil ah)
def Pn:{B:KF->Caller->KF // B=λk0 d=>tK (selC [(q145,k0)] d) d140.1}:=⟨_,by conv=>rhs;reduce⟩
@[irreducible] def GC:KF:=Pn.1 FO noC
theorem eG:Adq FN q140 GC:=by unfold GC;rw[Pn.2];exact Adq.tree (fn:=d140.1) (by kernel_rfl) rfl (ae (AdqL.cons cA AdqL.nil) ah)
def Po:{B:Caller->KF // B=λd=>tK (selC [] d) d179.1}:=⟨_,by conv=>rhs;reduce⟩
@[irreducible] def G8:KF:=orK (ar1 nClo) (Po.1 noC)
theorem iW:Adq FN q179 G8:=by unfold G8;rw[Po.2];exact Adq.bm (fn:=⟨d179.1.params,d179.1.body,d179.1.res,[Sy]⟩) (by kernel_rfl) rfl (ae AdqL.nil ah)
def e83:{B:KF->KF->KF->Caller->KF // B=λk0 k1 k2 d=>tK (selC [(q140,k0),(q145,k1),(q179,k2)] d) d83.1}:=⟨_,by conv=>rhs;reduce⟩
@[irreducible] def KA:KF:=orK (ar1 (nJ normK)) (e83.1 GC FO G8 noC)
theorem zS:Adq FN q83 KA:=by unfold KA;rw[e83.2];exact Adq.bm (fn:=⟨d83.1.params,d83.1.body,d83.1.res,[Sg]⟩) (by kernel_rfl) rfl (ae (AdqL.cons eG (AdqL.cons cA (AdqL.cons iW AdqL.nil))) ah)
def Pp:{B:KF->KF->KF->Caller->KF // B=λk0 k1 k2 d=>tK (selC [(q140,k0),(q145,k1),(q179,k2)] d) d125.1}:=⟨_,by conv=>rhs;reduce⟩
@[irreducible] def Je:KF:=orK (ar1 (nJ negK)) (Pp.1 GC FO G8 noC)
theorem qp:Adq FN q125 Je:=by unfold Je;rw[Pp.2];exact Adq.bm (fn:=⟨d125.1.params,d125.1.body,d125.1.res,[Sh]⟩) (by kernel_rfl) rfl (ae (AdqL.cons eG (AdqL.cons cA (AdqL.cons iW AdqL.nil))) ah)
def Pq:{B:KF->Caller->KF // B=λk0 d=>tK (selC [(q145,k0)] d) d119.1}:=⟨_,by conv=>rhs;reduce⟩
@[irreducible] def Gn:KF:=orK (ar1 nSg) (Pq.1 FO noC)
theorem qq:Adq FN q119 Gn:=by unfold Gn;rw[Pq.2];exact Adq.bm (fn:=⟨d119.1.params,d119.1.body,d119.1.res,[Si]⟩) (by kernel_rfl) rfl (ae (AdqL.cons cA AdqL.nil) ah)
def Pr:{B:Caller->KF // B=λd=>tK (selC [] d) d315.1}:=⟨_,by conv=>rhs;reduce⟩
@[irreducible] def KG:KF:=Pr.1 noC
theorem qt:Adq FN q315 KG:=by unfold KG;rw[Pr.2];exact Adq.tree (fn:=d315.1) (by kernel_rfl) rfl (ae AdqL.nil ah)
def Ps:{B:KF->Caller->KF // B=λk0 d=>tK (selC [(q315,k0)] d) d264.1}:=⟨_,by conv=>rhs;reduce⟩
@[irreducible] def KH:KF:=Ps.1 KG noC
theorem qu:Adq FN q264 KH:=by unfold KH;rw[Ps.2];exact Adq.tree (fn:=d264.1) (by kernel_rfl) rfl (ae (AdqL.cons qt AdqL.nil) ah)
def Pt:{B:Caller->KF // B=λd=>tK (selC [] d) d294.1}:=⟨_,by conv=>rhs;reduce⟩
@[irreducible] def Ml:KF:=Pt.1 noC
theorem zT:Adq FN q294 Ml:=by unfold Ml;rw[Pt.2];exact Adq.tree (fn:=d294.1) (by kernel_rfl) rfl (ae AdqL.nil ah)
def Pu:{B:KF->Caller->KF // B=λk0 d=>tK (selC [(q294,k0)] d) d265.1}:=⟨_,by conv=>rhs;reduce⟩
@[irreducible] def KI:KF:=Pu.1 Ml noC
theorem qv:Adq FN q265 KI:=by unfold KI;rw[Pu.2];exact Adq.tree (fn:=d265.1) (by kernel_rfl) rfl (ae (AdqL.cons zT AdqL.nil) ah)
def Pv:{B:Caller->KF // B=λd=>tK (selC [] d) d316.1}:=⟨_,by conv=>rhs;reduce⟩
@[irreducible] def KK:KF:=Pv.1 noC
theorem qw:Adq FN q316 KK:=by unfold KK;rw[Pv.2];exact Adq.tree (fn:=d316.1) (by kernel_rfl) rfl (ae AdqL.nil ah)
def Pw:{B:KF->Caller->KF // B=λk0 d=>tK (selC [(q316,k0)] d) d266.1}:=⟨_,by conv=>rhs;reduce⟩
@[irreducible] def KO:KF:=Pw.1 KK noC
theorem qz:Adq FN q266 KO:=by unfold KO;rw[Pw.2];exact Adq.tree (fn:=d266.1) (by kernel_rfl) rfl (ae (AdqL.cons qw AdqL.nil) ah)
def Px:{B:KF->KF->KF->KF->KF->Caller->KF // B=λk0 k1 k2 k3 k4 d=>tK (selC [(q140,k0),(q145,k1),(q264,k2),(q265,k3),(q266,k4)] d) d208.1}:=⟨_,by conv=>rhs;reduce⟩
@[irreducible] def Mm:KF:=Px.1 GC FO KH KI KO noC
theorem zU:Adq FN q208 Mm:=by unfold Mm;rw[Px.2];exact Adq.tree (fn:=d208.1) (by kernel_rfl) rfl (ae (AdqL.cons eG (AdqL.cons cA (AdqL.cons qu (AdqL.cons qv (AdqL.cons qz AdqL.nil))))) ah)
def Py:{B:KF->KF->Caller->KF // B=λk0 k1 d=>tK (selC [(q145,k0),(q208,k1)] d) d120.1}:=⟨_,by conv=>rhs;reduce⟩
@[irreducible] def Gp:KF:=orK (ar2 (nJJ addK)) (Py.1 FO Mm noC)
theorem zV:Adq FN q120 Gp:=by unfold Gp;rw[Py.2];exact Adq.bm (fn:=⟨d120.1.params,d120.1.body,d120.1.res,[Sj]⟩) (by kernel_rfl) rfl (ae (AdqL.cons cA (AdqL.cons zU AdqL.nil)) ah)
def Pz:{B:Caller->KF // B=λd=>tK (selC [] d) d141.1}:=⟨_,by conv=>rhs;reduce⟩
@[irreducible] def Jf:KF:=Pz.1 noC
theorem lR:Adq FN q141 Jf:=by unfold Jf;rw[Pz.2];exact Adq.tree (fn:=d141.1) (by kernel_rfl) rfl (ae AdqL.nil ah)
def PA:{B:KF->Caller->KF // B=λk0 d=>tK (selC [(q141,k0)] d) d144.1}:=⟨_,by conv=>rhs;reduce⟩
@[irreducible] def Mn:KF:=PA.1 Jf noC
theorem zW:Adq FN q144 Mn:=by unfold Mn;rw[PA.2];exact Adq.tree (fn:=d144.1) (by kernel_rfl) rfl (ae (AdqL.cons lR AdqL.nil) ah)
def e72:{B:KF->KF->KF->Caller->KF // B=λk0 k1 k2 d=>tK (selC [(q140,k0),(q144,k1),(q145,k2)] d) d72.1}:=⟨_,by conv=>rhs;reduce⟩
@[irreducible] def Fv:KF:=orK (ar2 (nJJ mulK)) (e72.1 GC Mn FO noC)
theorem qA:Adq FN q72 Fv:=by unfold Fv;rw[e72.2];exact Adq.bm (fn:=⟨d72.1.params,d72.1.body,d72.1.res,[Sk]⟩) (by kernel_rfl) rfl (ae (AdqL.cons eG (AdqL.cons zW (AdqL.cons cA AdqL.nil))) ah)
def PB:{B:Caller->KF // B=λd=>tK (selC [] d) d288.1}:=⟨_,by conv=>rhs;reduce⟩
@[irreducible] def KR:KF:=PB.1 noC
theorem qB:Adq FN q288 KR:=by unfold KR;rw[PB.2];exact Adq.tree (fn:=d288.1) (by kernel_rfl) rfl (ae AdqL.nil ah)
def PC:{B:Caller->KF // B=λd=>tK (selC [] d) d366.1}:=⟨_,by conv=>rhs;reduce⟩
@[irreducible] def Mo:KF:=PC.1 noC
theorem zX:Adq FN q366 Mo:=by unfold Mo;rw[PC.2];exact Adq.tree (fn:=d366.1) (by kernel_rfl) rfl (ae AdqL.nil ah)
def PD:{B:KF->Caller->KF // B=λk0 d=>tK (selC [(q366,k0)] d) d342.1}:=⟨_,by conv=>rhs;reduce⟩
@[irreducible] def Mp:KF:=PD.1 Mo noC
theorem zY:Adq FN q342 Mp:=by unfold Mp;rw[PD.2];exact Adq.tree (fn:=d342.1) (by kernel_rfl) rfl (ae (AdqL.cons zX AdqL.nil) ah)
def PE:{B:Caller->KF // B=λd=>tK (selC [] d) d261.1}:=⟨_,by conv=>rhs;reduce⟩
@[irreducible] def Mq:KF:=PE.1 noC
theorem zZ:Adq FN q261 Mq:=by unfold Mq;rw[PE.2];exact Adq.tree (fn:=d261.1) (by kernel_rfl) rfl (ae AdqL.nil ah)
def PF:{B:KF->Caller->KF // B=λk0 d=>tK (selC [(q261,k0)] d) d343.1}:=⟨_,by conv=>rhs;reduce⟩
@[irreducible] def Mr:KF:=PF.1 Mq noC
theorem z5:Adq FN q343 Mr:=by unfold Mr;rw[PF.2];exact Adq.tree (fn:=d343.1) (by kernel_rfl) rfl (ae (AdqL.cons zZ AdqL.nil) ah)
def PG:{B:Caller->KF // B=λd=>tK (selC [] d) d344.1}:=⟨_,by conv=>rhs;reduce⟩
@[irreducible] def Ms:KF:=PG.1 noC
theorem z6:Adq FN q344 Ms:=by unfold Ms;rw[PG.2];exact Adq.tree (fn:=d344.1) (by kernel_rfl) rfl (ae AdqL.nil ah)
def PH:{B:KF->KF->Caller->KF // B=λk0 k1 d=>tK (selC [(q315,k0),(q316,k1)] d) d345.1}:=⟨_,by conv=>rhs;reduce⟩
@[irreducible] def Mu:KF:=PH.1 KG KK noC
theorem z7:Adq FN q345 Mu:=by unfold Mu;rw[PH.2];exact Adq.tree (fn:=d345.1) (by kernel_rfl) rfl (ae (AdqL.cons qt (AdqL.cons qw AdqL.nil)) ah)
def PI:{B:Caller->KF // B=λd=>tK (selC [] d) d346.1}:=⟨_,by conv=>rhs;reduce⟩
@[irreducible] def Mv:KF:=PI.1 noC
theorem z8:Adq FN q346 Mv:=by unfold Mv;rw[PI.2];exact Adq.tree (fn:=d346.1) (by kernel_rfl) rfl (ae AdqL.nil ah)
def PJ:{B:KF->KF->KF->KF->KF->KF->KF->KF->KF->KF->Caller->KF // B=λk0 k1 k2 k3 k4 k5 k6 k7 k8 k9 d=>tK (selC [(q141,k0),(q145,k1),(q179,k2),(q265,k3),(q288,k4),(q342,k5),(q343,k6),(q344,k7),(q345,k8),(q346,k9)] d) d287.1}:=⟨_,by conv=>rhs;reduce⟩
@[irreducible] def KS:KF:=PJ.1 Jf FO G8 KI KR Mp Mr Ms Mu Mv noC
theorem qC:Adq FN q287 KS:=by unfold KS;rw[PJ.2];exact Adq.tree (fn:=d287.1) (by kernel_rfl) rfl (ae (AdqL.cons lR (AdqL.cons cA (AdqL.cons iW (AdqL.cons qv (AdqL.cons qB (AdqL.cons zY (AdqL.cons z5 (AdqL.cons z6 (AdqL.cons z7 (AdqL.cons z8 AdqL.nil)))))))))) ah)
def PK:{B:KF->KF->KF->KF->Caller->KF // B=λk0 k1 k2 k3 d=>tK (selC [(q141,k0),(q179,k1),(q287,k2),(q288,k3)] d) d225.1}:=⟨_,by conv=>rhs;reduce⟩
@[irreducible] def Mw:KF:=PK.1 Jf G8 KS KR noC
theorem z9:Adq FN q225 Mw:=by unfold Mw;rw[PK.2];exact Adq.tree (fn:=d225.1) (by kernel_rfl) rfl (ae (AdqL.cons lR (AdqL.cons iW (AdqL.cons qC (AdqL.cons qB AdqL.nil)))) ah)
def PL:{B:KF->KF->KF->Caller->KF // B=λk0 k1 k2 d=>tK (selC [(q140,k0),(q145,k1),(q225,k2)] d) d154.1}:=⟨_,by conv=>rhs;reduce⟩
@[irreducible] def KU:KF:=orK (ar2 (nJJ gcdK)) (PL.1 GC FO Mw noC)
theorem z_:Adq FN q154 KU:=by unfold KU;rw[PL.2];exact Adq.bm (fn:=⟨d154.1.params,d154.1.body,d154.1.res,[Sm]⟩) (by kernel_rfl) rfl (ae (AdqL.cons eG (AdqL.cons cA (AdqL.cons z9 AdqL.nil))) ah)
@[irreducible] def Jg:List AVal->AH->R:=ar1 nqOf
theorem qD:Adq FN q52 Jg:=by unfold Jg;exact Adq.nat (fn:=⟨d52.1.params,d52.1.body,d52.1.res,[Sn]⟩) (by kernel_rfl) rfl
def PM:{B:KF->KF->KF->KF->KF->Caller->KF // B=λk0 k1 k2 k3 k4 d=>tK (selC [(q140,k0),(q145,k1),(q264,k2),(q266,k3),(q287,k4)] d) d224.1}:=⟨_,by conv=>rhs;reduce⟩
@[irreducible] def Mx:KF:=PM.1 GC FO KH KO KS noC
theorem Aa:Adq FN q224 Mx:=by unfold Mx;rw[PM.2];exact Adq.tree (fn:=d224.1) (by kernel_rfl) rfl (ae (AdqL.cons eG (AdqL.cons cA (AdqL.cons qu (AdqL.cons qz (AdqL.cons qC AdqL.nil))))) ah)
def PN:{B:KF->Caller->KF // B=λk0 d=>tK (selC [(q224,k0)] d) d153.1}:=⟨_,by conv=>rhs;reduce⟩
@[irreducible] def KW:KF:=orK (ar2 (nJJe exK)) (PN.1 Mx noC)
theorem Ab:Adq FN q153 KW:=by unfold KW;rw[PN.2];exact Adq.bm (fn:=⟨d153.1.params,d153.1.body,d153.1.res,[Sx]⟩) (by kernel_rfl) rfl (ae (AdqL.cons Aa AdqL.nil) ah)
def Sz:List (Pth×(List AVal->AH->R)):=[]
def My(a0:Pth)(y0:Nat)(H:AH):R:=fz (Nat.add y0 1) λo3=>pv (l1 a0 o3 H) λv4=>aI (lenF v4) λn5=>gdR 5 true (.bool (intEqF n5 (.ofNat 1))) (λJ6=>fz (Nat.add y0 1) λo13=>pv (l1 a0 o13 H) λv14=>pv (iaI 1 v14 (.ofNat 0)) λv15=>asI .u32 (loadK false 1 v15 H) λn16=>J6 (.ptr a0 o13) v14 v15 (.int .u32 n16) (.bool (intEqF n16 (.ofNat 1))) H) (λu7 u8 u9 u10 u11 H12=>asB (pickF (.bool (intEqF n5 (.ofNat 1))) u11 (.bool false)) λb17=>gdR 3 true (.bool b17) (λJ18=>fz y0 λo23=>pv (l1 a0 o23 H12) λv24=>asB (unV .not v24) λb25=>J18 (.ptr a0 o23) v24 (.bool b25) H12) (λu19 u20 u21 H22=>asB (pickF (.bool b17) u21 (.bool false)) λb26=>resE [(.bool b26)] H22) H12) H
def GD(a2:AVal)(H:AH):R:=bxP a2 H λi1 H2=>My i1 0 H2
def Mz(args:List AVal)(H:AH):R:=consA args λa0 l0=>nilA l0 (GD a0 H)
theorem qE:Cal FN (selC Sz noC):=ae AdqL.nil ah
theorem qF:Adq FN q209 Mz:=Adq.fn (fn:=d209.1) (by kernel_rfl) (by kernel_rfl) (Ap.lb [q2] GD (Ap.seq (Ap.lb [q0] My (Ap.seq Ap.ret (Ap.aa qE [vP,vA,vI,vB,vP,vA,vA,.int .u32,vB,vB,vP,vA,vB,vB,vB])) (λ_ _ _ _=>by kernel_rfl)) (Ap.aa qE [vP,vB])) (λ_ _=>by kernel_rfl)) (λargs H=>oQ (g:=λa0=>GD a0 H) (G:=λargs=>entK d209.1.params args E0 λE=>Kt.app [q2] GD E H) (λ_=>R.le_of_eq (by kernel_rfl)) args)
def PO:{B:KF->KF->KF->KF->KF->KF->Caller->KF // B=λk0 k1 k2 k3 k4 k5 d=>tK (selC [(q69,k0),(q83,k1),(q125,k2),(q153,k3),(q154,k4),(q209,k5)] d) d124.1}:=⟨_,by conv=>rhs;reduce⟩
@[irreducible] def FR:KF:=orK (ar2 (nJJQ ovrK)) (PO.1 Jc KA Je KW KU Mz noC)
theorem iX:Adq FN q124 FR:=by unfold FR;rw[PO.2];exact Adq.bm (fn:=⟨d124.1.params,d124.1.body,d124.1.res,[Sw]⟩) (by kernel_rfl) rfl (ae (AdqL.cons qm (AdqL.cons zS (AdqL.cons qp (AdqL.cons Ab (AdqL.cons z_ (AdqL.cons qF AdqL.nil)))))) ah)
def e85:{B:KF->Caller->KF // B=λk0 d=>tK (selC [(q124,k0)] d) d85.1}:=⟨_,by conv=>rhs;reduce⟩
@[irreducible] def F9:KF:=orK (ar1 (nQ ovrK)) (e85.1 FR noC)
theorem qG:Adq FN q85 F9:=by unfold F9;rw[e85.2];exact Adq.bm (fn:=⟨d85.1.params,d85.1.body,d85.1.res,[Sp]⟩) (by kernel_rfl) rfl (ae (AdqL.cons iX AdqL.nil) ah)
def e60:{B:KF->KF->Caller->KF // B=λk0 k1 d=>tK (selC [(q124,k0),(q125,k1)] d) d60.1}:=⟨_,by conv=>rhs;reduce⟩
@[irreducible] def FT:KF:=orK (ar1 (nQ qnegK)) (e60.1 FR Je noC)
theorem qH:Adq FN q60 FT:=by unfold FT;rw[e60.2];exact Adq.bm (fn:=⟨d60.1.params,d60.1.body,d60.1.res,[Sq]⟩) (by kernel_rfl) rfl (ae (AdqL.cons iX (AdqL.cons qp AdqL.nil)) ah)
def PQ:{B:KF->Caller->KF // B=λk0 d=>tK (selC [(q119,k0)] d) d122.1}:=⟨_,by conv=>rhs;reduce⟩
@[irreducible] def Gq:KF:=orK (ar1 nqSg) (PQ.1 Gn noC)
theorem qI:Adq FN q122 Gq:=by unfold Gq;rw[PQ.2];exact Adq.bm (fn:=⟨d122.1.params,d122.1.body,d122.1.res,[Sr]⟩) (by kernel_rfl) rfl (ae (AdqL.cons qq AdqL.nil) ah)
def e88:{B:KF->KF->Caller->KF // B=λk0 k1 d=>tK (selC [(q72,k0),(q124,k1)] d) d88.1}:=⟨_,by conv=>rhs;reduce⟩
@[irreducible] def FU:KF:=orK (ar2 (nQQ qmulK)) (e88.1 Fv FR noC)
theorem qJ:Adq FN q88 FU:=by unfold FU;rw[e88.2];exact Adq.bm (fn:=⟨d88.1.params,d88.1.body,d88.1.res,[Ss]⟩) (by kernel_rfl) rfl (ae (AdqL.cons qA (AdqL.cons iX AdqL.nil)) ah)
def SA:List (Pth×(List AVal->AH->R)):=[(q119,Gn),(q85,F9),(q209,Mz),(q120,Gp),(q69,Jc),(q72,Fv),(q124,FR)]
def PR(a1:Pth)(y1:Nat)(a2:Pth)(y2:Nat)(H:AH):R:=pv (lA a1 true 4 y1 H) λv12=>rv (F9 [v12] H) λv13 H14=>stK 4 (.ptr a2 y2) v13 H14 λH15=>resE [(loadK true 4 (.ptr a2 y2) H15)] H15
def PS(a0:Pth)(y0:Nat)(a2:Pth)(y2:Nat)(H:AH):R:=pv (lA a0 true 4 y0 H) λv21=>rv (F9 [v21] H) λv22 H23=>stK 4 (.ptr a2 y2) v22 H23 λH24=>resE [(loadK true 4 (.ptr a2 y2) H24)] H24
def PT(a0:Pth)(y0:Nat)(a1:Pth)(y1:Nat)(a2:Pth)(y2:Nat)(H:AH):R:=fz y0 λo40=>pv (lA a0 true 2 o40 H) λv41=>fz y1 λo42=>pv (lA a1 true 2 o42 H) λv43=>rv (Gp [v41,v43] H) λv44 H45=>rv (nOf (.int .i64 (.ofNat 1)) H45) λv46 H47=>pv (buildE [(0,2,v44),(2,2,v46)] [(.bool false),.snil,(.bool false),.snil]) λv48=>stK 4 (.ptr a2 y2) v48 H47 λH49=>resE [(loadK true 4 (.ptr a2 y2) H49)] H49
def KX(a0:Pth)(y0:Nat)(a1:Pth)(y1:Nat)(a2:Pth)(y2:Nat)(a3:AVal)(H:AH):R:=pv (loadK true 2 a3 H) λv69=>fz (Nat.add y0 2) λo70=>pv (lA a0 true 2 o70 H) λv71=>fz (Nat.add y1 2) λo72=>pv (lA a1 true 2 o72 H) λv73=>rv (Fv [v71,v73] H) λv74 H75=>rv (FR [v69,v74] H75) λv76 H77=>stK 4 (.ptr a2 y2) v76 H77 λH78=>chkK [H78,H77,H75,H] 3 [⟨0,1,(loadK true 2 a3),v69⟩] (resE [(loadK true 4 (.ptr a2 y2) H78)] H78)
def Jh(a0:Pth)(y0:Nat)(a1:Pth)(y1:Nat)(a2:Pth)(y2:Nat)(H:AH):R:=letH ⟨H.next.succ,H.m⟩ λH50=>fz y0 λo51=>pv (lA a0 true 2 o51 H50) λv52=>fz (Nat.add y1 2) λo53=>pv (lA a1 true 2 o53 H50) λv54=>rv (Fv [v52,v54] H50) λv55 H56=>fz y1 λo57=>pv (lA a1 true 2 o57 H56) λv58=>fz (Nat.add y0 2) λo59=>pv (lA a0 true 2 o59 H56) λv60=>rv (Fv [v58,v60] H56) λv61 H62=>rv (Gp [v55,v61] H62) λv63 H64=>mkK (boxV (.agg [(.bool false),.snil]) H.next) λob65 v66=>letH (setHK H64 H.next ob65) λH67=>stK 2 v66 v63 H67 λH68=>chkK [H68,H64,H62,H56,H50] 4 [⟨0,1,(loadK true 2 (.ptr a0 o59)),v60⟩,⟨0,1,(loadK true 2 (.ptr a1 o57)),v58⟩] (KX a0 y0 a1 y1 a2 y2 v66 H68)
def MA(a0:Pth)(y0:Nat)(a1:Pth)(y1:Nat)(a2:Pth)(y2:Nat)(H:AH):R:=fz (Nat.add y0 2) λo25=>pv (lA a0 true 2 o25 H) λv26=>rv (GD v26 H) λv27 H28=>gdR 3 true v27 (λJ29=>fz (Nat.add y1 2) λo34=>pv (lA a1 true 2 o34 H28) λv35=>rv (GD v35 H28) λv36 H37=>asB v36 λb38=>J29 (.ptr a1 o34) v35 (.bool b38) H37) (λu30 u31 u32 H33=>asB (pickF v27 u32 (.bool false)) λb39=>br b39 (PT a0 y0 a1 y1 a2 y2 H33) (Jh a0 y0 a1 y1 a2 y2 H33)) H28
def MB(a0:Pth)(y0:Nat)(a1:Pth)(y1:Nat)(a2:Pth)(y2:Nat)(H:AH):R:=fz (Nat.add y1 2) λo16=>pv (lA a1 true 2 o16 H) λv17=>rv (Gn [v17] H) λv18 H19=>aM v18 λn20=>br (intEqF n20 (.ofNat 0)) (PS a0 y0 a2 y2 H19) (MA a0 y0 a1 y1 a2 y2 H19)
def MC(a0:Pth)(y0:Nat)(a1:Pth)(y1:Nat)(a2:Pth)(y2:Nat)(H:AH):R:=fz (Nat.add y0 2) λo7=>pv (lA a0 true 2 o7 H) λv8=>rv (Gn [v8] H) λv9 H10=>aM v9 λn11=>br (intEqF n11 (.ofNat 0)) (PR a1 y1 a2 y2 H10) (MB a0 y0 a1 y1 a2 y2 H10)
def G9(a22:AVal)(a23:AVal)(H:AH):R:=bxP a22 H λi1 H2=>bxP a23 H2 λi3 H4=>bxP (.agg [(.bool false),.snil,(.bool false),.snil]) H4 λi5 H6=>MC i1 0 i3 0 i5 0 H6
def SB(args:List AVal)(H:AH):R:=consA args λa0 l0=>consA l0 λa1 l1=>nilA l1 (G9 a0 a1 H)
def Fy:List AVal->AH->R:=orK (ar2 (nQQ qaddK)) SB
theorem cN:Cal FN (selC SA noC):=ae (AdqL.cons qq (AdqL.cons qG (AdqL.cons qF (AdqL.cons zV (AdqL.cons qm (AdqL.cons qA (AdqL.cons iX AdqL.nil))))))) ah
theorem iY:Adq FN q123 Fy:=Adq.pe (fn:=⟨d123.1.params,d123.1.body,d123.1.res,[Su]⟩) (by kernel_rfl) (by kernel_rfl) (Ap.lb [q22,q23] G9 (Ap.seq (Ap.lb [q0,q1,q2] MC (Ap.seq (Ap.lb [q0,q1,q2] Jh (Ap.seq (Ap.lb [q0,q1,q2,q3] KX (Ap.seq Ap.ret (Ap.aC cN [vA,vP,vA,vP])) (λ_ _ _ _ _ _ _ _=>by kernel_rfl)) (Ap.aC cN [vP,vA,vP,vA,vA,vP,vA,vP])) (λ_ _ _ _ _ _ _ _=>by kernel_rfl)) (Ap.block (Ap.aq cN [vP,vA,vI,vB] (Ap.lb [q1,q2] PR (Ap.seq Ap.ret (Ap.aa cN [])) (λ_ _ _ _ _ _=>by kernel_rfl)) (Ap.lb [q0,q1,q2] MB (Ap.aq cN [vP,vA,vI,vB] (Ap.lb [q0,q2] PS (Ap.seq Ap.ret (Ap.aa cN [])) (λ_ _ _ _ _ _=>by kernel_rfl)) (Ap.lb [q0,q1,q2] MA (Ap.aq cN [vP,vA,vA,vP,vA,vB,vB] (Ap.lb [q0,q1,q2] PT (Ap.seq Ap.ret (Ap.aa cN [vP,vA,vP])) (λ_ _ _ _ _ _ _ _=>by kernel_rfl)) Ap.skip) (λ_ _ _ _ _ _ _ _=>by kernel_rfl))) (λ_ _ _ _ _ _ _ _=>by kernel_rfl))))) (λ_ _ _ _ _ _ _ _=>by kernel_rfl)) (Ap.aa cN [vP,vP,vP])) (λ_ _=>by kernel_rfl)) (λargs H=>ij (g:=λa0 a1=>G9 a0 a1 H) (G:=λargs=>entK d123.1.params args E0 λE=>Kt.app [q22,q23] G9 E H) (λ_ _=>R.le_of_eq (by kernel_rfl)) args)
def SC:List (Pth×(List AVal->AH->R)):=[(q60,FT),(q123,Fy)]
def MD(a0:Pth)(y0:Nat)(a1:Pth)(y1:Nat)(a2:Pth)(y2:Nat)(H:AH):R:=pv (lA a1 true 4 y1 H) λv7=>pv (lA a2 true 4 y2 H) λv8=>rv (FT [v8] H) λv9 H10=>rv (Fy [v7,v9] H10) λv11 H12=>stK 4 (.ptr a0 y0) v11 H12 λH13=>chkK [H13,H12,H10,H] 3 [⟨0,1,(loadK true 4 (.ptr a1 y1)),v7⟩] (resE [(loadK true 4 (.ptr a0 y0) H13)] H13)
def Ij(a7:AVal)(a8:AVal)(H:AH):R:=bxP a7 H λi1 H2=>bxP a8 H2 λi3 H4=>bxP (.agg [(.bool false),.snil,(.bool false),.snil]) H4 λi5 H6=>MD i5 0 i1 0 i3 0 H6
def SD(args:List AVal)(H:AH):R:=consA args λa0 l0=>consA l0 λa1 l1=>nilA l1 (Ij a0 a1 H)
def GF:List AVal->AH->R:=orK (ar2 (nQQ qsubK)) SD
theorem h63:Cal FN (selC SC noC):=ae (AdqL.cons qH (AdqL.cons iY AdqL.nil)) ah
theorem qK:Adq FN q63 GF:=Adq.pe (fn:=⟨d63.1.params,d63.1.body,d63.1.res,[Sv]⟩) (by kernel_rfl) (by kernel_rfl) (Ap.lb [q7,q8] Ij (Ap.seq (Ap.lb [q0,q1,q2] MD (Ap.seq Ap.ret (Ap.aC h63 [])) (λ_ _ _ _ _ _ _ _=>by kernel_rfl)) (Ap.aa h63 [vP,vP,vP])) (λ_ _=>by kernel_rfl)) (λargs H=>ij (g:=λa0 a1=>Ij a0 a1 H) (G:=λargs=>entK d63.1.params args E0 λE=>Kt.app [q7,q8] Ij E H) (λ_ _=>R.le_of_eq (by kernel_rfl)) args)
def KY:Hot:=[(q69,Jc),(q83,KA),(q125,Je),(q119,Gn),(q120,Gp),(q72,Fv),(q154,KU),(q52,Jg),(q85,F9),(q60,FT),(q122,Gq),(q88,FU),(q123,Fy),(q63,GF),(q124,FR),(q153,KW),(q179,G8)]
def SE:Caller:=calK FN KY 12
attribute [local irreducible] SE
def SF:List (Pth×(List AVal->AH->R)):=[(q88,FU),(q60,FT),(q63,GF),(q122,Gq)]
def Ik(k0:AVal->AVal->AVal->Pth->Nat->AH->R)(a0:AVal)(a1:AVal)(a5:AVal)(a7:Pth)(y7:Nat)(H:AH):R:=asQ (iaI 5 a0 (.ofNat 0)) λi49 o50=>pv (lA i49 true 5 o50 H) λv51=>bsQ 5 1 [(.int .i64 0),(.bool false),.snil,(.bool false),.snil] [(0,v51)] H λi52 H53=>apK 5 72 a5 (.sl i52 0 1 1) H53 λv54 H55=>mv v54 λv56=>pv (slcO 5 a0 (some (.int .i64 (.ofNat 1))) none) λv57=>mv v57 λv58=>k0 v58 a1 v56 a7 y7 H55
def Il(k0:AVal->AVal->AVal->Pth->Nat->AH->R)(a0:AVal)(a1:AVal)(a5:AVal)(a7:Pth)(y7:Nat)(H:AH):R:=letH ⟨H.next.succ,H.m⟩ λH82=>mv a5 λv83=>mv a1 λv84=>asQ (iaI 5 v84 (.ofNat 0)) λi85 o86=>fz o86 λo87=>pv (l1 i85 o87 H82) λv88=>pv (lA a7 true 4 y7 H82) λv89=>mv a1 λv90=>asQ (iaI 5 v90 (.ofNat 0)) λi91 o92=>fz (Nat.add o92 1) λo93=>pv (lA i91 true 4 o93 H82) λv94=>rv (FU [v89,v94] H82) λv95 H96=>rv (FT [v95] H96) λv97 H98=>pv (buildE [(0,1,v88),(1,4,v97)] [(.int .i64 0),(.bool false),.snil,(.bool false),.snil]) λv99=>mkK (bslP 5 1 [(.int .i64 0),(.bool false),.snil,(.bool false),.snil] [(0,v99)] H.next) λob100 Im=>letH (setHK H98 H.next ob100) λH102=>apK 5 72 v83 Im H102 λFV H104=>mv FV λGs=>chkK [H104,H98,H96,H82] 3 [⟨0,2,(loadK false 1 (.ptr i85 o87)),v88⟩] (pv (slcO 5 a1 (some (.int .i64 (.ofNat 1))) none) λJi=>mv Ji λJj=>k0 a0 Jj Gs a7 y7 H104)
def G_(k0:AVal->AVal->AVal->Pth->Nat->AH->R)(a0:AVal)(a1:AVal)(a5:AVal)(a7:Pth)(y7:Nat)(H:AH):R:=mv a0 λv147=>pv (slcO 5 v147 (some (.int .i64 (.ofNat 1))) none) λv148=>mv a1 λv149=>pv (slcO 5 v149 (some (.int .i64 (.ofNat 1))) none) λv150=>mv v148 λv151=>mv v150 λv152=>k0 v151 v152 a5 a7 y7 H
def Jk(k0:AVal->AVal->AVal->Pth->Nat->AH->R)(a0:AVal)(a1:AVal)(a5:AVal)(a6:AVal)(a7:Pth)(y7:Nat)(H:AH):R:=letH ⟨H.next.succ,H.m⟩ λH132=>mv a5 λME=>mv a0 λKZ=>asQ (iaI 5 KZ (.ofNat 0)) λi135 o136=>fz o136 λo137=>pv (l1 i135 o137 H132) λMF=>pv (loadK true 4 a6 H132) λMG=>pv (buildE [(0,1,MF),(1,4,MG)] [(.int .i64 0),(.bool false),.snil,(.bool false),.snil]) λv140=>mkK (bslP 5 1 [(.int .i64 0),(.bool false),.snil,(.bool false),.snil] [(0,v140)] H.next) λob141 v142=>letH (setHK H132 H.next ob141) λH143=>apK 5 72 ME v142 H143 λv144 H145=>mv v144 λv146=>G_ k0 a0 a1 v146 a7 y7 H145
def K0(k0:AVal->AVal->AVal->Pth->Nat->AH->R)(a0:AVal)(a1:AVal)(a5:AVal)(a6:AVal)(a7:Pth)(y7:Nat)(H:AH):R:=pv (loadK true 4 a6 H) λMH=>rv (Gq [MH] H) λMI H130=>aM MI λn131=>br (notF (intEqF n131 (.ofNat 0))) (Jk k0 a0 a1 a5 a6 a7 y7 H130) (G_ k0 a0 a1 a5 a7 y7 H130)
def Jl(k0:AVal->AVal->AVal->Pth->Nat->AH->R)(a0:AVal)(a1:AVal)(a5:AVal)(a7:Pth)(y7:Nat)(H:AH):R:=letH ⟨H.next.succ,H.m⟩ λH108=>mv a0 λJm=>asQ (iaI 5 Jm (.ofNat 0)) λi110 o111=>fz (Nat.add o111 1) λo112=>pv (lA i110 true 4 o112 H108) λK1=>pv (lA a7 true 4 y7 H108) λGG=>mv a1 λJn=>asQ (iaI 5 Jn (.ofNat 0)) λi116 o117=>fz (Nat.add o117 1) λiZ=>pv (lA i116 true 4 iZ H108) λMJ=>rv (FU [GG,MJ] H108) λJo H121=>rv (GF [K1,Jo] H121) λMK H123=>mkK (boxV (.agg [(.bool false),.snil,(.bool false),.snil]) H.next) λob124 Io=>letH (setHK H123 H.next ob124) λH126=>stK 4 Io MK H126 λH127=>chkK [H127,H123,H121,H108] 3 [⟨0,1,(loadK true 4 (.ptr i110 o112)),K1⟩] (K0 k0 a0 a1 a5 Io a7 y7 H127)
def GH(k0:AVal->AVal->AVal->Pth->Nat->AH->R)(a0:AVal)(a1:AVal)(a5:AVal)(a7:Pth)(y7:Nat)(H:AH):R:=mv a0 λv59=>aI (lenF v59) λn60=>gdM 9 false (.bool (intEqF n60 (.ofNat 0))) (λJ61=>mv a1 λv72=>pv (iaI 5 v72 (.ofNat 0)) λv73=>pv (faddrF 0 v73) λv74=>pv (loadK false 1 v74 H) λv75=>mv a0 λv76=>pv (iaI 5 v76 (.ofNat 0)) λv77=>pv (faddrF 0 v77) λv78=>pv (loadK false 1 v78 H) λv79=>pv (bin3 .lss v75 v79) λv80=>J61 v72 v73 v74 v75 v76 v77 v78 v79 v80 []) (λu62 u63 u64 u65 u66 u67 u68 u69 u70 r71=>asB (pickF (.bool (intEqF n60 (.ofNat 0))) (.bool true) u70) λb81=>chkK [H] 0 (r71) (br b81 (Il k0 a0 a1 a5 a7 y7 H) (Jl k0 a0 a1 a5 a7 y7 H))) []
def F_(k0:AVal->AVal->AVal->Pth->Nat->AH->R)(a0:AVal)(a1:AVal)(a5:AVal)(a7:Pth)(y7:Nat)(H:AH):R:=mv a1 λv12=>aI (lenF v12) λn13=>gdM 4 false (.bool (intEqF n13 (.ofNat 0))) (λJ14=>mv a0 λv20=>pv (lenF v20) λv21=>pv (bin3 .gtr v21 (.int .i64 (.ofNat 0))) λv22=>mv v22 λv23=>J14 v20 v21 v22 v23 []) (λu15 u16 u17 u18 r19=>gdM 9 true u18 (λJ24=>mv a0 λv35=>pv (iaI 5 v35 (.ofNat 0)) λv36=>pv (faddrF 0 v36) λv37=>pv (loadK false 1 v37 H) λv38=>mv a1 λv39=>pv (iaI 5 v39 (.ofNat 0)) λv40=>pv (faddrF 0 v40) λv41=>pv (loadK false 1 v41 H) λv42=>pv (bin3 .lss v38 v42) λv43=>J24 v35 v36 v37 v38 v39 v40 v41 v42 v43 (r19)) (λu25 u26 u27 u28 u29 u30 u31 u32 u33 r34=>gdM 1 false (.bool (intEqF n13 (.ofNat 0))) (λJ44=>pv (pickF u18 u33 (.bool false)) λv47=>J44 v47 (r34)) (λu45 r46=>asB (pickF (.bool (intEqF n13 (.ofNat 0))) (.bool true) u45) λb48=>chkK [H] 0 (r46) (br b48 (Ik k0 a0 a1 a5 a7 y7 H) (GH k0 a0 a1 a5 a7 y7 H))) (r34)) (r19)) []
def Fw(k0:AVal->AVal->AVal->Pth->Nat->AH->R)(a0:AVal)(a1:AVal)(a5:AVal)(a7:Pth)(y7:Nat)(H:AH):R:=aI (lenF a0) λn3=>gdR 3 false (.bool (intLtF (.ofNat 0) n3)) (λJ4=>mv a1 λv9=>aI (lenF v9) λn10=>J4 v9 (.int .i64 n10) (.bool (intLtF (.ofNat 0) n10)) H) (λu5 u6 u7 H8=>asB (pickF (.bool (intLtF (.ofNat 0) n3)) (.bool true) u7) λb11=>br b11 (F_ k0 a0 a1 a5 a7 y7 H8) (mv a5 λv153=>resE [v153] H8)) H
def Ip(a0:AVal)(a1:AVal)(a80:AVal)(H:AH):R:=bxP a80 H λi1 H2=>loopK Kt.no Fw a0 a1 .snil i1 0 H2
def K2(args:List AVal)(H:AH):R:=consA args λa0 l0=>consA l0 λa1 l1=>consA l1 λa2 l2=>nilA l2 (Ip a0 a2 a1 H)
theorem bq:Cal FN (selC SF noC):=ae (AdqL.cons qJ (AdqL.cons qH (AdqL.cons qK (AdqL.cons qI AdqL.nil)))) ah
theorem Ac:Adq FN q121 K2:=Adq.fn (fn:=d121.1) (by kernel_rfl) (by kernel_rfl) (Ap.lb [q0,q1,q80] Ip (Ap.seq (Ap.seq (Ap.seq (Ap.seq Ap.ret (Ap.aa bq [])) (Ap.block (Ap.lp [q0,q1,q5,q7] Fw λk0=>Ap.lb [q0,q1,q5,q7] (Fw k0) (Ap.seq (Ap.lb [q0,q1,q5,q7] (F_ k0) (Ap.block (Ap.block (Ap.seq (Ap.cond (Ap.lb [q0,q1,q5,q7] (Ik k0) (Ap.seq (Ap.aa bq []) (Ap.aa bq [vP])) (λ_ _ _ _=>by kernel_rfl)) (Ap.lb [q0,q1,q5,q7] (GH k0) (Ap.seq (Ap.cond (Ap.lb [q0,q1,q5,q7] (Il k0) (Ap.seq (Ap.aa bq []) (Ap.aC bq [vA,vA,vP,vP,vA,vA,vA,vP,vP])) (λ_ _ _ _=>by kernel_rfl)) (Ap.lb [q0,q1,q5,q7] (Jl k0) (Ap.seq (Ap.lb [q0,q1,q5,q7] (G_ k0) (Ap.aC bq []) (λ_ _ _ _=>by kernel_rfl)) (Ap.seq (Ap.lb [q0,q1,q5,q6,q7] (K0 k0) (Ap.aq bq [vA,vI,vB] (Ap.lb [q0,q1,q5,q6,q7] (Jk k0) (Ap.aC bq [vA,vA,vP,vP]) (λ_ _ _ _=>by kernel_rfl)) Ap.skip) (λ_ _ _ _=>by kernel_rfl)) (Ap.aC bq [vA,vP,vP,vA,vA,vA,vP,vP]))) (λ_ _ _ _=>by kernel_rfl))) (Ap.aC bq [vA,vI,vB,vB,vA,vA,vA,vA,vA,vA,vA,vA,vA,vB,vB])) (λ_ _ _ _=>by kernel_rfl))) (Ap.aC bq [vA,vI,vB,vB,vA,vA,vA,vA,vA,vA,vA,vA,vA,vA,vA,vA,vA,vA,vB,vB])))) (λ_ _ _ _=>by kernel_rfl)) (Ap.aq bq [vI,vB,vA,vI,vB,vB] Ap.skip Ap.exit)) (λ_ _ _ _=>by kernel_rfl)))) (Ap.aa bq [])) (Ap.aa bq [vP])) (λ_ _=>by kernel_rfl)) (λargs H=>oR (g:=λa0 a1 a2=>Ip a0 a2 a1 H) (G:=λargs=>entK d121.1.params args E0 λE=>Kt.app [q0,q1,q80] Ip E H) (λ_ _ _=>R.le_of_eq (by kernel_rfl)) args)
def SG:List (Pth×(List AVal->AH->R)):=[(q52,Jg),(q88,FU),(q123,Fy)]
def ML(k0:AVal->Int->Pth->Nat->Pth->Nat->AVal->Int->AH->R)(a0:Int)(a1:AVal)(a2:Int)(a28:Pth)(y28:Nat)(a29:Pth)(y29:Nat)(a3:AVal)(a30:Int)(H:AH):R:=mv a1 λv35=>mv a1 λv36=>asQ (iaI 4 v36 a0) λi37 o38=>pv (lA i37 true 4 o38 H) λv39=>pv (lA a29 true 4 y29 H) λv40=>mv a3 λv41=>asQ (iaI 4 v41 a0) λi42 o43=>pv (lA i42 true 4 o43 H) λv44=>rv (FU [v40,v44] H) λv45 H46=>rv (Fy [v39,v45] H46) λv47 H48=>asQ (iaI 4 v35 a0) λi49 o50=>stK 4 (.ptr i49 o50) v47 H48 λH51=>chkK [H51,H48,H46,H] 3 [⟨0,1,(loadK true 4 (.ptr i37 o38)),v39⟩] (iv (wrapF .i64 (addF a2 (.ofNat 1))) λn52=>k0 a1 n52 a28 y28 a29 y29 a3 a30 H51)
def Ha(k0:AVal->Int->Pth->Nat->Pth->Nat->AVal->Int->AH->R)(a0:Int)(a1:AVal)(a2:Int)(a28:Pth)(y28:Nat)(a29:Pth)(y29:Nat)(a3:AVal)(a30:Int)(H:AH):R:=aI (lenF a3) λn34=>br (intLtF a0 n34) (ML k0 a0 a1 a2 a28 y28 a29 y29 a3 a30 H) (iv (wrapF .i64 (addF a2 (.ofNat 1))) λn53=>k0 a1 n53 a28 y28 a29 y29 a3 a30 H)
def K_(k0:AVal->Int->Pth->Nat->Pth->Nat->AVal->Int->AH->R)(a0:Int)(a1:AVal)(a2:Int)(a28:Pth)(y28:Nat)(a29:Pth)(y29:Nat)(a3:AVal)(a30:Int)(H:AH):R:=mv a1 λv22=>pv (lA a28 true 4 y28 H) λv23=>mv a3 λv24=>iv (wrapF .i64 (subF a0 (.ofNat 1))) λn25=>asQ (iaI 4 v24 n25) λi26 o27=>pv (lA i26 true 4 o27 H) λv28=>rv (FU [v23,v28] H) λv29 H30=>asQ (iaI 4 v22 a0) λi31 o32=>stK 4 (.ptr i31 o32) v29 H30 λH33=>Ha k0 a0 a1 a2 a28 y28 a29 y29 a3 a30 H33
def MM(k0:AVal->Int->Pth->Nat->Pth->Nat->AVal->Int->AH->R)(a0:Int)(a1:AVal)(a2:Int)(a28:Pth)(y28:Nat)(a29:Pth)(y29:Nat)(a3:AVal)(a30:Int)(H:AH):R:=rv (nqOf (.int .i64 (.ofNat 0)) H) λv17 H18=>asQ (iaI 4 a1 a0) λi19 o20=>stK 4 (.ptr i19 o20) v17 H18 λH21=>br (intLtF (.ofNat 0) a0) (K_ k0 a0 a1 a2 a28 y28 a29 y29 a3 a30 H21) (Ha k0 a0 a1 a2 a28 y28 a29 y29 a3 a30 H21)
def MN(k0:AVal->Int->Pth->Nat->Pth->Nat->AVal->Int->AH->R)(a1:AVal)(a2:Int)(a28:Pth)(y28:Nat)(a29:Pth)(y29:Nat)(a3:AVal)(a30:Int)(H:AH):R:=MM k0 a2 a1 a2 a28 y28 a29 y29 a3 a30 H
def GI(k0:AVal->Int->Pth->Nat->Pth->Nat->AVal->Int->AH->R)(a1:AVal)(a2:Int)(a28:Pth)(y28:Nat)(a29:Pth)(y29:Nat)(a3:AVal)(a30:Int)(H:AH):R:=br (intLtF a2 a30) (MN k0 a1 a2 a28 y28 a29 y29 a3 a30 H) (mv a1 λv54=>resE [v54] H)
def MO(a1:AVal)(a28:Pth)(y28:Nat)(a29:Pth)(y29:Nat)(a3:AVal)(H:AH):R:=aI (lenF a1) λn16=>loopK Kt.no GI a1 (.ofNat 0) a28 y28 a29 y29 a3 n16 H
def Jp(a28:Pth)(y28:Nat)(a29:Pth)(y29:Nat)(a3:AVal)(H:AH):R:=aI (lenF a3) λn11=>iv (wrapF .i64 (addF n11 (.ofNat 1))) λn12=>mkQ (mkslP 4 64 [(.bool false),.snil,(.bool false),.snil] (.int .i64 n12) (.int .i64 n12) H.next) H λv13 H14=>mv v13 λv15=>MO v15 a28 y28 a29 y29 a3 H14
def MP(a3:AVal)(a32:AVal)(a33:AVal)(H:AH):R:=rv (nqOf a32 H) λv1 H2=>rv (nqOf a33 H2) λv3 H4=>bxP (.agg [(.bool false),.snil,(.bool false),.snil]) H4 λi5 H6=>bxP (.agg [(.bool false),.snil,(.bool false),.snil]) H6 λi7 H8=>stK 4 (.ptr i5 0) v1 H8 λH9=>stK 4 (.ptr i7 0) v3 H9 λH10=>Jp i5 0 i7 0 a3 H10
def Gt(a3:AVal)(a32:AVal)(a33:AVal)(H:AH):R:=MP a3 a32 a33 H
def PU(args:List AVal)(H:AH):R:=consA args λa0 l0=>consA l0 λa1 l1=>consA l1 λa2 l2=>nilA l2 (Gt a0 a1 a2 H)
theorem bC:Cal FN (selC SG noC):=ae (AdqL.cons qD (AdqL.cons qJ (AdqL.cons iY AdqL.nil))) ah
theorem Ad:Adq FN q329 PU:=Adq.fn (fn:=d329.1) (by kernel_rfl) (by kernel_rfl) (Ap.lb [q3,q32,q33] Gt (Ap.seq (Ap.lb [q3,q32,q33] MP (Ap.seq (Ap.lb [q28,q29,q3] Jp (Ap.seq (Ap.lb [q1,q28,q29,q3] MO (Ap.seq (Ap.seq Ap.ret (Ap.aa bC [])) (Ap.seq (Ap.block (Ap.lp [q1,q2,q28,q29,q3,q30] GI λk0=>Ap.lb [q1,q2,q28,q29,q3,q30] (GI k0) (Ap.seq (Ap.lb [q1,q2,q28,q29,q3,q30] (MN k0) (Ap.seq (Ap.aa bC [vI,vI]) (Ap.block (Ap.seq (Ap.lb [q0,q1,q2,q28,q29,q3,q30] (MM k0) (Ap.seq (Ap.seq (Ap.lb [q0,q1,q2,q28,q29,q3,q30] (Ha k0) (Ap.aq bC [vI,vB] (Ap.lb [q0,q1,q2,q28,q29,q3,q30] (ML k0) (Ap.aC bC [vA,vI,vA,vI,vP,vA,vA,vA,vI,vP,vA,vA,vA,vP]) (λ_ _ _ _ _ _ _ _ _=>by kernel_rfl)) Ap.skip) (λ_ _ _ _ _ _ _ _ _=>by kernel_rfl)) (Ap.aq bC [vB] (Ap.lb [q0,q1,q2,q28,q29,q3,q30] (K_ k0) (Ap.aC bC [vA,vI,vA,vA,vI,vI,vP,vA,vA,vP]) (λ_ _ _ _ _ _ _ _ _=>by kernel_rfl)) Ap.skip)) (Ap.aa bC [vA,vP])) (λ_ _ _ _ _ _ _ _ _=>by kernel_rfl)) (Ap.aa bC [vI])))) (λ_ _ _ _ _ _ _ _=>by kernel_rfl)) (Ap.aq bC [vB] Ap.skip Ap.exit)) (λ_ _ _ _ _ _ _ _=>by kernel_rfl))) (Ap.aa bC [vI,vI]))) (λ_ _ _ _ _ _=>by kernel_rfl)) (Ap.aa bC [vI,vI])) (λ_ _ _ _ _ _=>by kernel_rfl)) (Ap.aa bC [vA,vA,vP,vP])) (λ_ _=>by kernel_rfl)) (Ap.aa bC [])) (λ_ _=>by kernel_rfl)) (λargs H=>oR (g:=λa0 a1 a2=>Gt a0 a1 a2 H) (G:=λargs=>entK d329.1.params args E0 λE=>Kt.app [q3,q32,q33] Gt E H) (λ_ _ _=>R.le_of_eq (by kernel_rfl)) args)
def SH:List (Pth×(List AVal->AH->R)):=[(q52,Jg),(q122,Gq),(q85,F9),(q329,PU),(q123,Fy)]
def MQ(k0:Int->Int->Int->AVal->Pth->Nat->AVal->AH->R)(a20:Int)(a22:Int)(a24:Int)(a26:Int)(a29:AVal)(a3:Pth)(y3:Nat)(a5:AVal)(H:AH):R:=rv (nqOf (.int .i64 (.ofNat 0)) H) λv10 H11=>asQ (iaI 4 a5 a24) λi12 o13=>stK 4 (.ptr i12 o13) v10 H11 λH14=>iv (wrapF .i64 (addF a22 (.ofNat 1))) λn15=>k0 a20 n15 a26 a29 a3 y3 a5 H14
def MR(k0:Int->Int->Int->AVal->Pth->Nat->AVal->AH->R)(a20:Int)(a22:Int)(a26:Int)(a29:AVal)(a3:Pth)(y3:Nat)(a5:AVal)(H:AH):R:=MQ k0 a20 a22 a22 a26 a29 a3 y3 a5 H
def MS(k0:Int->Int->AVal->Int->Pth->Nat->AVal->AH->R)(k1:AVal->Int->Int->Int->Int->AVal->Int->Pth->Nat->AVal->AH->R)(a0:AVal)(a1:Int)(a18:Int)(a20:Int)(a21:Int)(a25:AVal)(a27:Int)(a3:Pth)(y3:Nat)(a5:AVal)(H:AH):R:=fz y3 λo34=>pv (l1 a3 o34 H) λv35=>fz (Nat.add y3 1) λo36=>pv (l1 a3 o36 H) λv37=>rv (Gt a0 v35 v37 H) λv38 H39=>mv v38 λv40=>iv (wrapF .i64 (addF a1 (.ofNat 1))) λn41=>k1 v40 n41 a18 a20 a21 a25 a27 a3 y3 a5 H39
def MT(k0:Int->Int->AVal->Int->Pth->Nat->AVal->AH->R)(k1:AVal->Int->Int->Int->Int->AVal->Int->Pth->Nat->AVal->AH->R)(a0:AVal)(a1:Int)(a18:Int)(a20:Int)(a21:Int)(a25:AVal)(a27:Int)(a3:Pth)(y3:Nat)(a5:AVal)(H:AH):R:=fz (Nat.add y3 2) λo42=>pv (l1 a3 o42 H) λv43=>fz (Nat.add y3 3) λo44=>pv (l1 a3 o44 H) λv45=>rv (Gt a0 v43 v45 H) λv46 H47=>mv v46 λv48=>iv (wrapF .i64 (addF a1 (.ofNat 1))) λn49=>k1 v48 n49 a18 a20 a21 a25 a27 a3 y3 a5 H47
def MU(k0:Int->Int->AVal->Int->Pth->Nat->AVal->AH->R)(k1:AVal->Int->Int->Int->Int->AVal->Int->Pth->Nat->AVal->AH->R)(a0:AVal)(a1:Int)(a18:Int)(a20:Int)(a21:Int)(a25:AVal)(a27:Int)(a3:Pth)(y3:Nat)(a5:AVal)(H:AH):R:=br (intLtF a1 a18) (MS k0 k1 a0 a1 a18 a20 a21 a25 a27 a3 y3 a5 H) (MT k0 k1 a0 a1 a18 a20 a21 a25 a27 a3 y3 a5 H)
def MV(k0:Int->Int->AVal->Int->Pth->Nat->AVal->AH->R)(k1:AVal->Int->Int->Int->Int->AVal->Int->Pth->Nat->AVal->AH->R)(a0:AVal)(a19:Int)(a2:Int)(a20:Int)(a21:Int)(a25:AVal)(a27:Int)(a3:Pth)(y3:Nat)(a4:Int)(a5:AVal)(H:AH):R:=mv a5 λv51=>mv a5 λv52=>asQ (iaI 4 v52 a4) λi53 o54=>pv (lA i53 true 4 o54 H) λv55=>mv a0 λv56=>asQ (iaI 4 v56 a4) λi57 o58=>pv (lA i57 true 4 o58 H) λv59=>rv (Fy [v55,v59] H) λv60 H61=>asQ (iaI 4 v51 a4) λi62 o63=>stK 4 (.ptr i62 o63) v60 H61 λH64=>iv (wrapF .i64 (addF a2 (.ofNat 1))) λn65=>k1 a0 a19 n65 a20 a21 a25 a27 a3 y3 a5 H64
def MW(k0:Int->Int->AVal->Int->Pth->Nat->AVal->AH->R)(k1:AVal->Int->Int->Int->Int->AVal->Int->Pth->Nat->AVal->AH->R)(a0:AVal)(a19:Int)(a2:Int)(a20:Int)(a21:Int)(a25:AVal)(a27:Int)(a3:Pth)(y3:Nat)(a5:AVal)(H:AH):R:=MV k0 k1 a0 a19 a2 a20 a21 a25 a27 a3 y3 a2 a5 H
def GJ(k0:Int->Int->AVal->Int->Pth->Nat->AVal->AH->R)(k1:AVal->Int->Int->Int->Int->AVal->Int->Pth->Nat->AVal->AH->R)(a0:AVal)(a19:Int)(a2:Int)(a20:Int)(a21:Int)(a25:AVal)(a27:Int)(a3:Pth)(y3:Nat)(a5:AVal)(H:AH):R:=br (intLtF a2 a19) (MW k0 k1 a0 a19 a2 a20 a21 a25 a27 a3 y3 a5 H) (iv (wrapF .i64 (addF a21 (.ofNat 1))) λn66=>k0 a20 n66 a25 a27 a3 y3 a5 H)
def Iq(k0:Int->Int->AVal->Int->Pth->Nat->AVal->AH->R)(k1:AVal->Int->Int->Int->Int->AVal->Int->Pth->Nat->AVal->AH->R)(a0:AVal)(a1:Int)(a18:Int)(a20:Int)(a21:Int)(a25:AVal)(a27:Int)(a3:Pth)(y3:Nat)(a5:AVal)(H:AH):R:=br (intLtF a1 a20) (MU k0 k1 a0 a1 a18 a20 a21 a25 a27 a3 y3 a5 H) (aI (lenF a5) λn50=>loopK Kt.no (GJ k0) a0 n50 (.ofNat 0) a20 a21 a25 a27 a3 y3 a5 H)
def La(k0:Int->Int->AVal->Int->Pth->Nat->AVal->AH->R)(a0:AVal)(a18:Int)(a20:Int)(a21:Int)(a25:AVal)(a27:Int)(a3:Pth)(y3:Nat)(a5:AVal)(H:AH):R:=loopK Kt.no (Iq k0) a0 (.ofNat 0) a18 a20 a21 a25 a27 a3 y3 a5 H
def MX(k0:Int->Int->AVal->Int->Pth->Nat->AVal->AH->R)(a18:Int)(a20:Int)(a21:Int)(a23:Pth)(y23:Nat)(a25:AVal)(a27:Int)(a3:Pth)(y3:Nat)(a5:AVal)(H:AH):R:=pv (lA a23 true 4 y23 H) λv29=>rv (F9 [v29] H) λv30 H31=>bsQ 4 1 [(.bool false),.snil,(.bool false),.snil] [(0,v30)] H31 λi32 H33=>La k0 (.sl i32 0 1 1) a18 a20 a21 a25 a27 a3 y3 a5 H33
def Lb(k0:Int->Int->AVal->Int->Pth->Nat->AVal->AH->R)(a18:Int)(a20:Int)(a21:Int)(a23:Pth)(y23:Nat)(a25:AVal)(a27:Int)(a3:Pth)(y3:Nat)(a5:AVal)(H:AH):R:=pv (lA a23 true 4 y23 H) λv24=>rv (Gq [v24] H) λv25 H26=>aM v25 λn27=>br (intEqF n27 (.ofNat 0)) (iv (wrapF .i64 (addF a21 (.ofNat 1))) λn28=>k0 a20 n28 a25 a27 a3 y3 a5 H26) (MX k0 a18 a20 a21 a23 y23 a25 a27 a3 y3 a5 H26)
def MY(k0:Int->Int->AVal->Int->Pth->Nat->AVal->AH->R)(a20:Int)(a21:Int)(a25:AVal)(a27:Int)(a3:Pth)(y3:Nat)(a5:AVal)(H:AH):R:=asQ (iaI 4 a25 a21) λi18 o19=>pv (lA i18 true 4 o19 H) λv20=>bxP (.agg [(.bool false),.snil,(.bool false),.snil]) H λi21 H22=>stK 4 (.ptr i21 0) v20 H22 λH23=>Lb k0 a21 a20 a21 i21 0 a25 a27 a3 y3 a5 H23
def Hb(k0:Int->Int->AVal->Int->Pth->Nat->AVal->AH->R)(a20:Int)(a21:Int)(a25:AVal)(a27:Int)(a3:Pth)(y3:Nat)(a5:AVal)(H:AH):R:=br (intLtF a21 a27) (MY k0 a20 a21 a25 a27 a3 y3 a5 H) (mv a5 λv67=>resE [v67] H)
def Lc(a20:Int)(a29:AVal)(a3:Pth)(y3:Nat)(a5:AVal)(H:AH):R:=mv a29 λv16=>aI (lenF v16) λn17=>loopK Kt.no Hb a20 (.ofNat 0) v16 n17 a3 y3 a5 H
def Hc(k0:Int->Int->Int->AVal->Pth->Nat->AVal->AH->R)(a20:Int)(a22:Int)(a26:Int)(a29:AVal)(a3:Pth)(y3:Nat)(a5:AVal)(H:AH):R:=br (intLtF a22 a26) (MR k0 a20 a22 a26 a29 a3 y3 a5 H) (Lc a20 a29 a3 y3 a5 H)
def MZ(a20:Int)(a29:AVal)(a3:Pth)(y3:Nat)(H:AH):R:=iv (wrapF .i64 (addF a20 (.ofNat 1))) λn5=>mkQ (mkslP 4 64 [(.bool false),.snil,(.bool false),.snil] (.int .i64 n5) (.int .i64 n5) H.next) H λv6 H7=>mv v6 λv8=>aI (lenF v8) λn9=>loopK Kt.no Hc a20 (.ofNat 0) n9 a29 a3 y3 v8 H7
def M0(a29:AVal)(a3:Pth)(y3:Nat)(H:AH):R:=aI (lenF a29) λn3=>iv (wrapF .i64 (subF n3 (.ofNat 1))) λn4=>MZ n4 a29 a3 y3 H
def Ir(a29:AVal)(a30:AVal)(H:AH):R:=bxP a30 H λi1 H2=>M0 a29 i1 0 H2
def M3(args:List AVal)(H:AH):R:=consA args λa0 l0=>consA l0 λa1 l1=>nilA l1 (Ir a0 a1 H)
theorem aE:Cal FN (selC SH noC):=ae (AdqL.cons qD (AdqL.cons qI (AdqL.cons qG (AdqL.cons Ad (AdqL.cons iY AdqL.nil))))) ah
theorem Ae:Adq FN q276 M3:=Adq.fn (fn:=d276.1) (by kernel_rfl) (by kernel_rfl) (Ap.lb [q29,q30] Ir (Ap.seq (Ap.lb [q29,q3] M0 (Ap.seq (Ap.lb [q20,q29,q3] MZ (Ap.seq (Ap.seq (Ap.lb [q20,q29,q3,q5] Lc (Ap.seq (Ap.seq Ap.ret (Ap.aa aE [])) (Ap.seq (Ap.block (Ap.lp [q20,q21,q25,q27,q3,q5] Hb λk0=>Ap.lb [q20,q21,q25,q27,q3,q5] (Hb k0) (Ap.seq (Ap.lb [q20,q21,q25,q27,q3,q5] (MY k0) (Ap.seq (Ap.aa aE [vI,vI]) (Ap.block (Ap.seq (Ap.lb [q18,q20,q21,q23,q25,q27,q3,q5] (Lb k0) (Ap.seq (Ap.lb [q18,q20,q21,q23,q25,q27,q3,q5] (MX k0) (Ap.seq (Ap.lb [q0,q18,q20,q21,q25,q27,q3,q5] (La k0) (Ap.seq (Ap.seq (Ap.block (Ap.lp [q0,q19,q2,q20,q21,q25,q27,q3,q5] (GJ k0) λk1=>Ap.lb [q0,q19,q2,q20,q21,q25,q27,q3,q5] (GJ k0 k1) (Ap.seq (Ap.lb [q0,q19,q2,q20,q21,q25,q27,q3,q5] (MW k0 k1) (Ap.seq (Ap.aa aE [vI,vI]) (Ap.block (Ap.seq (Ap.lb [q0,q19,q2,q20,q21,q25,q27,q3,q4,q5] (MV k0 k1) (Ap.aC aE [vA,vI,vA,vI,vP,vA,vA,vI,vP,vA,vA,vP]) (λ_ _ _ _ _ _ _ _ _ _=>by kernel_rfl)) (Ap.aa aE [vI])))) (λ_ _ _ _ _ _ _ _ _=>by kernel_rfl)) (Ap.aq aE [vB] Ap.skip Ap.exit)) (λ_ _ _ _ _ _ _ _ _=>by kernel_rfl))) (Ap.aa aE [vI,vI])) (Ap.seq (Ap.block (Ap.lp [q0,q1,q18,q20,q21,q25,q27,q3,q5] (Iq k0) λk1=>Ap.lb [q0,q1,q18,q20,q21,q25,q27,q3,q5] (Iq k0 k1) (Ap.seq (Ap.lb [q0,q1,q18,q20,q21,q25,q27,q3,q5] (MU k0 k1) (Ap.seq (Ap.aa aE [vI,vI]) (Ap.block (Ap.aq aE [vB] (Ap.lb [q0,q1,q18,q20,q21,q25,q27,q3,q5] (MS k0 k1) (Ap.aa aE [vP,vA,vP]) (λ_ _ _ _ _ _ _ _ _=>by kernel_rfl)) (Ap.lb [q0,q1,q18,q20,q21,q25,q27,q3,q5] (MT k0 k1) (Ap.aa aE [vP,vA,vP]) (λ_ _ _ _ _ _ _ _ _=>by kernel_rfl))))) (λ_ _ _ _ _ _ _ _ _=>by kernel_rfl)) (Ap.aq aE [vB] Ap.skip Ap.exit)) (λ_ _ _ _ _ _ _ _ _=>by kernel_rfl))) (Ap.aa aE [vI]))) (λ_ _ _ _ _ _ _ _=>by kernel_rfl)) (Ap.aa aE [])) (λ_ _ _ _ _ _ _ _ _ _=>by kernel_rfl)) (Ap.aq aE [vA,vI,vB] Ap.exit Ap.skip)) (λ_ _ _ _ _ _ _ _ _ _=>by kernel_rfl)) (Ap.aa aE [vI,vP,vA,vP,vI])))) (λ_ _ _ _ _ _ _=>by kernel_rfl)) (Ap.aq aE [vB] Ap.skip Ap.exit)) (λ_ _ _ _ _ _ _=>by kernel_rfl))) (Ap.aa aE [vA,vI,vI]))) (λ_ _ _ _ _=>by kernel_rfl)) (Ap.seq (Ap.block (Ap.lp [q20,q22,q26,q29,q3,q5] Hc λk0=>Ap.lb [q20,q22,q26,q29,q3,q5] (Hc k0) (Ap.seq (Ap.lb [q20,q22,q26,q29,q3,q5] (MR k0) (Ap.seq (Ap.aa aE [vI,vI]) (Ap.block (Ap.seq (Ap.lb [q20,q22,q24,q26,q29,q3,q5] (MQ k0) (Ap.aa aE [vA,vP]) (λ_ _ _ _ _ _ _ _=>by kernel_rfl)) (Ap.aa aE [vI])))) (λ_ _ _ _ _ _ _=>by kernel_rfl)) (Ap.aq aE [vB] Ap.skip Ap.exit)) (λ_ _ _ _ _ _ _=>by kernel_rfl))) (Ap.aa aE [vI,vI]))) (Ap.aa aE [vI])) (λ_ _ _ _ _=>by kernel_rfl)) (Ap.aa aE [vI,vI,vI])) (λ_ _ _ _=>by kernel_rfl)) (Ap.aa aE [vP])) (λ_ _=>by kernel_rfl)) (λargs H=>ij (g:=λa0 a1=>Ir a0 a1 H) (G:=λargs=>entK d276.1.params args E0 λE=>Kt.app [q29,q30] Ir E H) (λ_ _=>R.le_of_eq (by kernel_rfl)) args)
end Go.Ex.KB
namespace Go.Ex.KB
open Go Go.Ex Go.Ex.KD
abbrev FP:Type:=AVal->AVal->Option AVal
structure NumF(mulv addv:FP):Prop where
 mul:∀x y v,mulv x y=some v->okRow v 4/\∀H,FU [x,y] H=.ok v H
 add:∀x y v,addv x y=some v->okRow v 4/\∀H,Fy [x,y] H=.ok v H
def Fk:List AVal:=[.bool false,.snil,.bool false,.mag 1]
theorem qL(H:AH):nqOf (.int .i64 (.ofNat 0)) H=.ok (.agg Fk) H:=rfl
def SI(mulv addv:FP)(x:AVal)(p:List (List AVal)):Nat->Option AVal
 |0=>some (.agg Fk)
 |i+1=>match p[i]? with
  |some r=>mulv x (.agg r)
  |none=>none
def Ld(mulv addv:FP)(y:AVal)(p:List (List AVal))(i:Nat)(o:AVal):Option AVal:=
 match p[i]? with
 |some r=>(mulv y (.agg r)).bind λm=>addv o m
 |none=>some o
def Is(mulv addv:FP)(x y:AVal)(p:List (List AVal))(i:Nat):Option AVal:=(SI mulv addv x p i).bind (Ld mulv addv y p i)
theorem Af:okRow (.agg Fk) 4:=⟨Fk,rfl,rfl,rfl⟩
section
variable{mulv addv:FP}(hN:NumF mulv addv){o i5 i7:Pth}{lx ly:List AVal}{a3:AVal}{p:List (List AVal)}
include hN
theorem qM{H:AH}{cur:List (List AVal)}{i n:Nat}(hout:Nw H o 4 cur)(hy:B4 H i7 ly)(hp:Sl H 4 a3 p)(h7:i7≠o)(hlen:cur.length=n+1)(hpn:p.length=n)(hi:i<=n)(hsm:n<100000)(hcur:okRow (.agg (cur[i]'(by omega))) 4){v:AVal}(hv:Ld mulv addv (.agg ly) p i (.agg (cur[i]'(by omega)))=some v)(k0:AVal->Int->Pth->Nat->Pth->Nat->AVal->Int->AH->R) :
 ∃H' row,v=.agg row/\okRow v 4/\Ha k0 (.ofNat i) (.sl o 0 (n+1) (n+1)) (.ofNat i) i5 0 i7 0 a3 (.ofNat (n+1)) H=k0 (.sl o 0 (n+1) (n+1)) (.ofNat (i+1)) i5 0 i7 0 a3 (.ofNat (n+1)) H'/\
  Nw H' o 4 (cur.set i row)/\H'.next=H.next/\∀q,q≠o->H'.m.get .dead q=H.m.get .dead q:=by
 have hic:i<cur.length:=by omega
 unfold Ha;rw[hp.len,aU,hpn];by_cases hin:i<n
 .rw[dm hin,bV];unfold ML;have hip:i<p.length:=by omega
  obtain⟨q,off,e1,e2,e3⟩:=hp.at_ hip;unfold Ld at hv;rw[List.getElem?_eq_getElem hip]at hv;simp only[Option.bind_eq_some_iff]at hv;obtain⟨m,hm,hv⟩:=hv;obtain⟨_,hm2⟩:=hN.mul _ _ _ hm;obtain⟨hok,ha2⟩:=hN.add _ _ _ hv;obtain⟨row,rfl,hl,heq⟩:=hok;obtain⟨H',s1,s2,s3,s4⟩:=hout.st hic hl (λH51=>chkK [H51,H,H,H] 3 [⟨0,1,loadK true 4 (.ptr o (Nat.add 0 (Nat.mul i 4))),.agg cur[i]⟩] (iv (wrapF .i64 (addF (.ofNat i) (.ofNat 1))) λn52=>k0 (.sl o 0 (n+1) (n+1)) n52 i5 0 i7 0 a3 (.ofNat (n+1)) H51));refine⟨H',row,rfl,⟨row,rfl,hl,heq⟩,?_,s2,s3,s4⟩;have hlA:=hout.lA hic;have hld:loadK true 4 (.ptr o (Nat.add 0 (Nat.mul i 4))) H=.agg cur[i]:=by rw[bj];exact(bo _ _ _ _ _).symm.trans hlA
  simp only[cK,fM (show i<n+1 by omega),ba,hlA,aO,hy.lA];rw[hp.mv,e1,ba,e2,aO,hm2,aH,ha2,aH,s1];obtain⟨lc,ec,_,hcq⟩:=hcur;cases ec;rw[iV hld hld hcq,add_one,wrap_small (by omega),aY]
 .rw[dn (by omega),bf];unfold Ld at hv;rw[List.getElem?_eq_none (by omega)]at hv;cases hv;refine⟨H,cur[i],rfl,hcur,?_,?_,rfl,λ_ _=>rfl⟩
  .rw[add_one,wrap_small (by omega),aY]
  .rw[List.set_getElem_self];exact hout
theorem Ag{H:AH}{cur:List (List AVal)}{i n:Nat}(hout:Nw H o 4 cur)(hx:B4 H i5 lx)(hy:B4 H i7 ly)(hp:Sl H 4 a3 p)(h5:i5≠o)(h7:i7≠o)(haw:Away a3 o)(hlen:cur.length=n+1)(hpn:p.length=n)(hi:i<=n)(hsm:n<100000){v:AVal}(hv:Is mulv addv (.agg lx) (.agg ly) p i=some v)(k0:AVal->Int->Pth->Nat->Pth->Nat->AVal->Int->AH->R) :
 ∃H' row,v=.agg row/\okRow v 4/\GI k0 (.sl o 0 (n+1) (n+1)) (.ofNat i) i5 0 i7 0 a3 (.ofNat (n+1)) H=k0 (.sl o 0 (n+1) (n+1)) (.ofNat (i+1)) i5 0 i7 0 a3 (.ofNat (n+1)) H'/\
  Nw H' o 4 (cur.set i row)/\H'.next=H.next/\∀q,q≠o->H'.m.get .dead q=H.m.get .dead q:=by
 have hic:i<cur.length:=by omega
 unfold GI;rw[dm (show i<n+1 by omega),bV];unfold MN MM;rw[qL,aH,fM (show i<n+1 by omega),ba];unfold Is at hv;simp only[Option.bind_eq_some_iff]at hv;obtain⟨a,ha,hb⟩:=hv;obtain⟨H1,s1,s2,s3,s4⟩:=hout.st hic (row:=Fk) rfl (λH21=>br (intLtF (.ofNat 0) (.ofNat i)) (K_ k0 (.ofNat i) (.sl o 0 (n+1) (n+1)) (.ofNat i) i5 0 i7 0 a3 (.ofNat (n+1)) H21) (Ha k0 (.ofNat i) (.sl o 0 (n+1) (n+1)) (.ofNat i) i5 0 i7 0 a3 (.ofNat (n+1)) H21));rw[s1];have hx1:B4 H1 i5 lx:=hx.keep (s4 i5 h5);have hy1:B4 H1 i7 ly:=hy.keep (s4 i7 h7);have hp1:Sl H1 4 a3 p:=Sl.other hp haw (by rw[s3];exact Nat.le_refl _) s4;have hl1:(cur.set i Fk).length=n+1:=by rw[List.length_set];exact hlen
 have hg1:(cur.set i Fk)[i]'(by omega)=Fk:=List.getElem_set_self (by omega);cases i with
 |zero=>rw[dn (Nat.le_refl 0),bf];have ha:some (AVal.agg Fk)=some a:=ha;cases ha;obtain⟨H',row,e1,e2,e3,e4,e5,e6⟩:=qM hN (i5:=i5) s2 hy1 hp1 h7 hl1 hpn (Nat.zero_le _) hsm (by rw[hg1];exact Af) (by rw[hg1];exact hb) k0;refine⟨H',row,e1,e2,e3,?_,e5.trans s3,λq hq=>(e6 q hq).trans (s4 q hq)⟩;rw[List.set_set]at e4;exact e4
 |succ i=>
  rw[dm (Nat.succ_pos i),bV];unfold K_;have hip:i<p.length:=by omega
  obtain⟨q,off,f1,f2,f3⟩:=hp1.at_ hip;have ha:(match p[i]? with|some r=>mulv (.agg lx) (.agg r)|none=>none)=some a:=ha;rw[List.getElem?_eq_getElem hip]at ha;have ha:mulv (.agg lx) (.agg p[i])=some a:=ha;obtain⟨hok,hm2⟩:=hN.mul _ _ _ ha;obtain⟨ra,rfl,hla,heqa⟩:=hok;obtain⟨H2,t1,t2,t3,t4⟩:=s2.st (show i+1<(cur.set (i+1) Fk).length by omega) hla (λH33=>Ha k0 (.ofNat (i+1)) (.sl o 0 (n+1) (n+1)) (.ofNat (i+1)) i5 0 i7 0 a3 (.ofNat (n+1)) H33);simp only[cK,hx1.lA,aO];rw[hp1.mv,sub_one,wrap_small (by omega),aY,f1,ba,f2,aO,hm2,aH,fM (show i+1<n+1 by omega),ba,t1];have hl2:((cur.set (i+1) Fk).set (i+1) ra).length=n+1:=by rw[List.length_set];exact hl1
  have hg2:((cur.set (i+1) Fk).set (i+1) ra)[i+1]'(by omega)=ra:=List.getElem_set_self (by omega);obtain⟨H',row,e1,e2,e3,e4,e5,e6⟩:=qM hN (i5:=i5) t2 (hy1.keep (t4 i7 h7)) (Sl.other hp1 haw (by rw[t3];exact Nat.le_refl _) t4) h7 hl2 hpn (by omega) hsm (by rw[hg2];exact⟨ra,rfl,hla,heqa⟩) (by rw[hg2];exact hb) k0;refine⟨H',row,e1,e2,e3,?_,e5.trans (t3.trans s3),λq hq=>(e6 q hq).trans ((t4 q hq).trans (s4 q hq))⟩;rw[List.set_set,List.set_set]at e4;exact e4
theorem Ah(n:Nat)(hpn:p.length=n)(hsm:n<100000)(h5:i5≠o)(h7:i7≠o)(haw:Away a3 o)(res:Nat->List AVal)(hres:∀i,i<=n->Is mulv addv (.agg lx) (.agg ly) p i=some (.agg (res i))):∀(r i N:Nat) (H:AH) (cur:List (List AVal)),i+r=n+1->r<N->Nw H o 4 cur->B4 H i5 lx->B4 H i7 ly->Sl H 4 a3 p->cur.length=n+1->∃H' cur',loopN Kt.no GI N (.sl o 0 (n+1) (n+1)) (.ofNat i) i5 0 i7 0 a3 (.ofNat (n+1)) H=.ok (.sl o 0 (n+1) (n+1)) H'/\Nw H' o 4 cur'/\cur'.length=n+1/\(∀m,m<i->cur'[m]?=cur[m]?)/\(∀m,i<=m->m<=n->cur'[m]?=some (res m))/\H'.next=H.next/\∀q,q≠o->H'.m.get .dead q=H.m.get .dead q:=by
 intro r
 induction r with
 |zero=>intro i N H cur hir hN' hout hx hy hp hlen;obtain⟨N,rfl⟩:∃M,N=M+1:=⟨N-1,by omega⟩;refine⟨H,cur,?_,hout,hlen,λ_ _=>rfl,λm h1 h2=>absurd h2 (by omega),rfl,λ_ _=>rfl⟩;rw[bW];unfold GI;rw[dn (by omega),bf,cK];rfl
 |succ r ih=>
  intro i N H cur hir hN' hout hx hy hp hlen;obtain⟨N,rfl⟩:∃M,N=M+1:=⟨N-1,by omega⟩;rw[bW];obtain⟨H1,row,e1,e2,e3,e4,e5,e6⟩:=Ag hN hout hx hy hp h5 h7 haw hlen hpn (show i<=n by omega) hsm (hres i (by omega)) (loopN Kt.no GI N);cases e1;rw[e3];obtain⟨H',cur',f1,f2,f3,f4,f5,f6,f7⟩:=ih (i+1) N H1 (cur.set i (res i)) (by omega) (by omega) e4 (hx.keep (e6 i5 h5)) (hy.keep (e6 i7 h7)) (Sl.other hp haw (by rw[e5];exact Nat.le_refl _) e6) (by rw[List.length_set];exact hlen);refine⟨H',cur',f1,f2,f3,λm hm=>?_,λm h1 h2=>?_,f6.trans e5,λq hq=>(f7 q hq).trans (e6 q hq)⟩
  .rw[f4 m (by omega),List.getElem?_set_ne (by omega)]
  .by_cases h:m=i
   .subst h;rw[f4 m (by omega),List.getElem?_set_self (by omega)]
   .exact f5 m (by omega) h2
theorem Ai{H:AH}{a32 a33:AVal}(hp:Sl H 4 a3 p)(hsm:p.length<100000)(hlx:lx.length=4)(hly:ly.length=4)(hx:∀H,nqOf a32 H=.ok (.agg lx) H)(hy:∀H,nqOf a33 H=.ok (.agg ly) H)(res:Nat->List AVal)(hres:∀i,i<=p.length->Is mulv addv (.agg lx) (.agg ly) p i=some (.agg (res i))):∃H1,Gt a3 a32 a33 H=.ok (.sl H.next.succ.succ 0 (p.length+1) (p.length+1)) H1/\Ext 3 H H1/\Nw H1 H.next.succ.succ 4 ((List.range (p.length+1)).map res)/\H1.next=H.next.succ.succ.succ:=by
 obtain⟨x0,x1,x2,x3,rfl⟩:∃a b c e,lx=[a,b,c,e]:=by
  match lx,hlx with
  |[a,b,c,e],_=>exact⟨a,b,c,e,rfl⟩
 obtain⟨y0,y1,y2,y3,rfl⟩:∃a b c e,ly=[a,b,c,e]:=by
  match ly,hly with
  |[a,b,c,e],_=>exact⟨a,b,c,e,rfl⟩
 unfold Gt MP;rw[hx,aH,hy,aH,bJ,bJ,dO];have t1:H.next.succ.toNat=H.next.toNat+1:=Pth.ab _
 have t2:H.next.succ.succ.toNat=H.next.toNat+2:=by rw[Pth.ab,t1]
 have E2:=((Ext.refl H).add (.arr (lenN [AVal.bool false,.snil,.bool false,.snil]) 1 [AVal.bool false,.snil,.bool false,.snil] .nil)).add (.arr (lenN [AVal.bool false,.snil,.bool false,.snil]) 1 [AVal.bool false,.snil,.bool false,.snil] .nil);have hb7:=B4.new [AVal.bool false,.snil,.bool false,.snil] rfl (H.add (.arr (lenN [AVal.bool false,.snil,.bool false,.snil]) 1 [AVal.bool false,.snil,.bool false,.snil] .nil));have hb5:=(B4.new [AVal.bool false,.snil,.bool false,.snil] rfl H).keep (H1:=(H.add (.arr (lenN [AVal.bool false,.snil,.bool false,.snil]) 1 [AVal.bool false,.snil,.bool false,.snil] .nil)).add (.arr (lenN [AVal.bool false,.snil,.bool false,.snil]) 1 [AVal.bool false,.snil,.bool false,.snil] .nil)) (aB (ne_of_lt (by rw[dO];omega)).symm _);have hn2:((H.add (.arr (lenN [AVal.bool false,.snil,.bool false,.snil]) 1 [AVal.bool false,.snil,.bool false,.snil] .nil)).add (.arr (lenN [AVal.bool false,.snil,.bool false,.snil]) 1 [AVal.bool false,.snil,.bool false,.snil] .nil)).next=H.next.succ.succ:=rfl
 rw[dO]at hb7;generalize ((H.add (.arr (lenN [AVal.bool false,.snil,.bool false,.snil]) 1 [AVal.bool false,.snil,.bool false,.snil] .nil)).add (.arr (lenN [AVal.bool false,.snil,.bool false,.snil]) 1 [AVal.bool false,.snil,.bool false,.snil] .nil))=H8 at *;have n57:H.next≠H.next.succ:=ne_of_lt (by omega)
 obtain⟨H9,s1,s2,s3,s4⟩:=hb5.st (l':=[x0,x1,x2,x3]) rfl (λH9=>stK 4 (.ptr H.next.succ 0) (.agg [y0,y1,y2,y3]) H9 λH10=>Jp H.next 0 H.next.succ 0 a3 H10);rw[s1];obtain⟨H10,u1,u2,u3,u4⟩:=(hb7.keep (s4 _ (Ne.symm n57))).st (l':=[y0,y1,y2,y3]) rfl (λH10=>Jp H.next 0 H.next.succ 0 a3 H10);rw[u1]
 have E10:Ext 2 H H10:=by
  refine⟨λid hi=>?_,?_,?_⟩
  .rw[u4 id (ne_of_lt (by omega)),s4 id (ne_of_lt (by omega))];exact E2.same id hi
  .rw[u3,s3];exact E2.le
  .rw[u3,s3];exact E2.next
 have hp10:=hp.ext E10;have hx10:B4 H10 H.next [x0,x1,x2,x3]:=s2.keep (u4 _ n57)
 unfold Jp;rw[hp10.len,aU,add_one,wrap_small (by omega),aY];have hsmall:small (p.length+1) 64=true:=by unfold small;rw[Bool.and_eq_true,Bool.and_eq_true];exact⟨Nat.ble_eq_true_of_le (by show(p.length+1)*64+1<=_;omega),rfl,Nat.ble_eq_true_of_le (by omega)⟩
 rw[ql hsmall,cK];have hn10:H10.next=H.next.succ.succ:=by rw[u3,s3];exact hn2
 unfold MO;have hlen:lenF (.sl H10.next 0 (p.length+1) (p.length+1))=.int .i64 (.ofNat (p.length+1)):=rfl;rw[hlen,aU,eF,hn10];have hnew:=Nw.new 4 (p.length+1) [AVal.bool false,.snil,.bool false,.snil] (by omega) rfl H10;rw[hn10]at hnew;have k5:H.next≠H.next.succ.succ:=ne_of_lt (by omega)
 have k7:H.next.succ≠H.next.succ.succ:=ne_of_lt (by omega)
 have E11:=E10.add (.arr 4 (p.length+1) [AVal.bool false,.snil,.bool false,.snil] .nil);have hk:∀q,q≠H.next.succ.succ->(H10.add (.arr 4 (p.length+1) [AVal.bool false,.snil,.bool false,.snil] .nil)).m.get .dead q=H10.m.get .dead q:=λq hq=>aB (by rw[hn10];exact Ne.symm hq) _
 obtain⟨H',cur',f1,f2,f3,f4,f5,f6,f7⟩:=Ah hN p.length rfl hsm k5 k7 (hp.qk (by omega)) res hres (p.length+1) 0 1000000 _ _ (by omega) (by omega) hnew (hx10.keep (hk _ k5)) (u2.keep (hk _ k7)) (hp.ext E11) (List.length_replicate ..);refine⟨H',f1,⟨λid hi=>?_,?_,?_⟩,?_⟩
 .rw[f7 id (ne_of_lt (by omega))];exact E11.same id hi
 .rw[f6];exact E11.le
 .rw[f6];exact E11.next
 .have:cur'=(List.range (p.length+1)).map res:=by
   apply List.ext_getElem?;intro m;by_cases hm:m<p.length+1
   .rw[f5 m (Nat.zero_le _) (by omega),List.getElem?_map,List.getElem?_range hm];rfl
   .rw[List.getElem?_eq_none (by omega),List.getElem?_eq_none (by simp;omega)]
  rw[<-this];exact⟨f2,by rw[f6,dO,hn10]⟩
end
end Go.Ex.KB
namespace Go.Ex
theorem fN(d:IntKind)(n:Int)(k:AVal->R):pv (.int d n) k=k (.int d n):=by show iv n (λn=>k (.int d n))=_;rw[aY]
theorem B4.l1{H:AH}{id:Pth}{a b c e:AVal}(h:B4 H id [a,b,c,e]):Go.Ex.l1 id 0 H=a/\Go.Ex.l1 id 1 H=b/\Go.Ex.l1 id 2 H=c/\Go.Ex.l1 id 3 H=e:=by
 obtain⟨d,els,h1,h2⟩:=h.is;have key:∀off,Go.Ex.l1 id off H=loadAt H false 1 id off:=λoff=>dE H id off
 refine⟨?_,?_,?_,?_⟩
 all_goals
  rw[key];unfold loadAt;rw[h1];unfold cellsAt
 .show(bif Nat.blt 0 1 then single false (takeN 1 (dropN 0 (elem 0 d els)))else .bad)=_;rw[h2];rfl
 .show(bif Nat.blt 0 1 then single false (takeN 1 (dropN 1 (elem 0 d els)))else .bad)=_;rw[h2];rfl
 .show(bif Nat.blt 0 1 then single false (takeN 1 (dropN 2 (elem 0 d els)))else .bad)=_;rw[h2];rfl
 .show(bif Nat.blt 0 1 then single false (takeN 1 (dropN 3 (elem 0 d els)))else .bad)=_;rw[h2];rfl
theorem B4.ext{H H1:AH}{c:Nat}{id:Pth}{l:List AVal}(h:B4 H id l)(hid:id.toNat<H.next.toNat)(hx:Ext c H H1):B4 H1 id l:=h.keep (hx.same id hid)
theorem Nw.ext{H H1:AH}{c esz:Nat}{id:Pth}{rows:List (List AVal)}(h:Nw H id esz rows)(hid:id.toNat<H.next.toNat)(hx:Ext c H H1):Nw H1 id esz rows:=h.keep (hx.same id hid)
theorem aV(n:Nat)(k:Nat->R):fz n k=k n:=aN n k
def It{β:Type}(f:Nat->Option β):Nat->Nat->Option (List β)
 |_,0=>some []
 |i,k+1=>match f i with
  |some a=>match It f (i+1) k with
   |some l=>some (a::l)
   |none=>none
  |none=>none
theorem qN{β:Type}{f:Nat->Option β}:∀{k i:Nat} {out:List β},It f i k=some out->out.length=k/\∀j,j<k->f (i+j)=out[j]?:=by
 intro k
 induction k with
 |zero=>intro i out h;cases h;exact⟨rfl,λj hj=>absurd hj (by omega)⟩
 |succ k ih=>
  intro i out h;unfold It at h;cases ha:f i with
  |none=>rw[ha]at h;cases h
  |some a=>
   rw[ha]at h;cases hl:It f (i+1) k with
   |none=>rw[hl]at h;cases h
   |some l=>
    rw[hl]at h;cases h;obtain⟨h1,h2⟩:=ih hl;refine⟨by simp[h1],λj hj=>?_⟩;cases j with
    |zero=>rw[Nat.add_zero,ha];rfl
    |succ j=>rw[show i+(j+1)=i+1+j by omega,h2 j (by omega)];rfl
theorem Ext.only{H0 H H1:AH}{c:Nat}{o:Pth}(h:Ext c H0 H)(ho:H0.next.toNat<=o.toNat)(hn:H1.next=H.next)(hs:∀q,q≠o->H1.m.get .dead q=H.m.get .dead q):Ext c H0 H1:=⟨λid hi=>(hs id (ne_of_lt (by omega))).trans (h.same id hi),by rw[hn];exact h.le,by rw[hn];exact h.next⟩
theorem qO{esz:Nat}{z row:List AVal}(hp:0<esz)(hl:row.length=esz)(H:AH)(k:Pth->AH->R):bsQ esz 1 z [(0,.agg row)] H k=k H.next (H.add (.arr esz 1 z (T8.put [] row (key 0) .nil)))/\Nw (H.add (.arr esz 1 z (T8.put [] row (key 0) .nil))) H.next esz [row]:=by
 have hne:row≠[]:=by intro e;subst e;simp at hl;omega
 refine⟨?_,⟨⟨z,T8.put [] row (key 0) .nil,bZ _,λj hj=>?_⟩,hp,λr hr=>?_⟩⟩
 .have:bslE esz .nil [(0,.agg row)]=some (T8.put [] row (key 0) .nil):=by
   show Bool.rec (motive:=λ_=>Option (T8 (List AVal))) none (some (T8.put [] (cellsOfF (.agg row)) (keyF 0) .nil)) (Nat.blt 0 esz&&lenIs (cellsOfF (.agg row)) esz)=_;rw[fe,cF,show Nat.blt 0 esz=true from Nat.ble_eq_true_of_le hp,show lenIs (AVal.agg row).cells esz=true by rw[<-hl];exact iU row];rfl
  unfold bsQ;rw[this];show newHK H _ k=_;rw[aX]
 .have:j=0:=by simpa using hj
  subst this;unfold elem;rw[aL,bE hne];rfl
 .rw[List.mem_singleton.1 hr];exact hl
theorem i_(n:Int)(k:Int->R):aM (.int .i64 n) k=k n:=rfl
def rowOf:AVal->Option (List AVal)
 |.agg l=>some l
 |_=>none
theorem lS{v:AVal}{l:List AVal}(h:rowOf v=some l):v=.agg l:=by cases v<;>first|(cases h;done)|(cases h;rfl)
end Go.Ex
namespace Go.Ex.KB
open Go Go.Ex Go.Ex.KD
def Le(mulv addv:FP)(x y:AVal)(p:List (List AVal)):Option (List (List AVal)):=It (λi=>(Is mulv addv x y p i).bind rowOf) 0 (p.length+1)
theorem lT{mulv addv:FP}{x y:AVal}{p out:List (List AVal)}(h:Le mulv addv x y p=some out):out.length=p.length+1/\(∀i,i<=p.length->Is mulv addv x y p i=some (.agg (out.getD i [])))/\(List.range (p.length+1)).map (λi=>out.getD i [])=out:=by
 obtain⟨h1,h2⟩:=qN h;refine⟨h1,λi hi=>?_,?_⟩
 .have:=h2 i (by omega);rw[Nat.zero_add,List.getElem?_eq_getElem (by omega)]at this;simp only[Option.bind_eq_some_iff]at this;obtain⟨v,hv,hr⟩:=this;rw[hv,lS hr,List.getD_eq_getElem?_getD,List.getElem?_eq_getElem (by omega)];rfl
 .apply List.ext_getElem?;intro m;by_cases hm:m<p.length+1
  .rw[List.getElem?_map,List.getElem?_range hm,List.getElem?_eq_getElem (by omega)];show some (out.getD m [])=_;rw[List.getD_eq_getElem?_getD,List.getElem?_eq_getElem (by omega)];rfl
  .rw[List.getElem?_eq_none (by simp;omega),List.getElem?_eq_none (by omega)]
structure NumS(mulv addv:FP)(ofv:Int->Option AVal)(sgnv:AVal->Option Int)(nrmv:AVal->Option AVal):Prop extends NumF mulv addv where
 of_:∀n v,ofv n=some v->okRow v 4/\∀H,nqOf (.int .i64 n) H=.ok v H
 sgn:∀x n,sgnv x=some n->∀H,Gq [x] H=.ok (.int .i64 n) H
 nrm:∀x v,nrmv x=some v->okRow v 4/\∀H,F9 [x] H=.ok v H
section
variable{mulv addv:FP}{ofv:Int->Option AVal}{sgnv:AVal->Option Int}{nrmv:AVal->Option AVal}(hN:NumS mulv addv ofv sgnv nrmv)
def Iu(mulv addv:FP)(i:Nat)(A B C D:AVal):Nat->Nat->List (List AVal)->Option (List (List AVal))
 |_,0,p=>some p
 |k,r+1,p=>(if k<i then Le mulv addv A B p else Le mulv addv C D p).bind λq=>Iu mulv addv i A B C D (k+1) r q
theorem Aj{i:Nat}{A B C D:AVal}:∀{r k:Nat} {p q:List (List AVal)},Iu mulv addv i A B C D k r p=some q->q.length=p.length+r:=by
 intro r
 induction r with
 |zero=>intro k p q h;cases h;rfl
 |succ r ih=>
  intro k p q h;unfold Iu at h;simp only[Option.bind_eq_some_iff]at h;obtain⟨m,hm,h⟩:=h
  have h1:m.length=p.length+1:=by
   by_cases hk:k<i
   .rw[if_pos hk]at hm;exact(lT hm).1
   .rw[if_neg hk]at hm;exact(lT hm).1
  rw[ih h,h1];omega
include hN
theorem Ak{k0:Int->Int->AVal->Int->Pth->Nat->AVal->AH->R}{i w:Nat}{a25 a5:AVal}{a27:Int}{i1:Pth}{gA gB gC gD:Int}{A B C D:AVal}(hA:ofv gA=some A)(hB:ofv gB=some B)(hC:ofv gC=some C)(hD:ofv gD=some D)(hw:w<50000):∀(r k N:Nat) (H:AH) (p q:List (List AVal)) (a0:AVal),k+r=w->r<N->Sl H 4 a0 p->p.length=k+1->B4 H i1 [.int .i64 gA,.int .i64 gB,.int .i64 gC,.int .i64 gD]->i1.toNat<H.next.toNat->Iu mulv addv i A B C D k r p=some q->∃H' a0',loopN Kt.no (Iq k0) N a0 (.ofNat k) (.ofNat i) (.ofNat w) (.ofNat i) a25 a27 i1 0 a5 H=(aI (lenF a5) λn50=>loopK Kt.no (GJ k0) a0' n50 (.ofNat 0) (.ofNat w) (.ofNat i) a25 a27 i1 0 a5 H')/\Sl H' 4 a0' q/\Ext (3*r) H H'/\∀o,o.toNat<H.next.toNat->Away a0 o->Away a0' o:=by
 intro r
 induction r with
 |zero=>intro k N H p q a0 hkr hN' hp hpl hg hi1 h;cases h;obtain⟨N,rfl⟩:∃M,N=M+1:=⟨N-1,by omega⟩;refine⟨H,a0,?_,hp,Ext.refl H,λ_ _ h=>h⟩;rw[bW];unfold Iq;rw[dn (by omega),bf]
 |succ r ih=>
  intro k N H p q a0 hkr hN' hp hpl hg hi1 h;obtain⟨N,rfl⟩:∃M,N=M+1:=⟨N-1,by omega⟩;rw[bW];unfold Iq;rw[dm (show k<w by omega),bV];unfold MU;unfold Iu at h;simp only[Option.bind_eq_some_iff]at h;obtain⟨m,hm,h⟩:=h;obtain⟨g0,g1,g2,g3⟩:=hg.l1
  have go:∀(x y:Int) (X Y:AVal),ofv x=some X->ofv y=some Y->Le mulv addv X Y p=some m->(∃H',Gt a0 (.int .i64 x) (.int .i64 y) H=.ok (.sl H.next.succ.succ 0 m.length m.length) H'/\Sl H' 4 (.sl H.next.succ.succ 0 m.length m.length) m/\Ext 3 H H'/\m.length=k+2):=λx y X Y hx hy hl=>by
   obtain⟨l1,l2,l3⟩:=lT hl;obtain⟨⟨rx,rfl,rx2,_⟩,hx2⟩:=hN.of_ _ _ hx;obtain⟨⟨ry,rfl,ry2,_⟩,hy2⟩:=hN.of_ _ _ hy;obtain⟨H',f1,f2,f3,f4⟩:=Ai hN.toNumF hp (by omega) rx2 ry2 hx2 hy2 (λi=>m.getD i []) l2;rw[l3]at f3;have hid:H.next.succ.succ.toNat<H'.next.toNat:=by rw[f4,Pth.ab H.next.succ.succ];omega
   exact⟨H',by rw[f1,l1],f3.sl hid,f2,by omega⟩
  by_cases hki:k<i
  .rw[if_pos hki]at hm;rw[dm hki,bV];obtain⟨H1,f1,f2,f3,f4⟩:=go gA gB A B hA hB hm;unfold MS;have e1:l1 i1 (Nat.add 0 1) H=.int .i64 gB:=g1;rw[aV,g0,fN,aV,e1,fN,f1,aH,cK,add_one,wrap_small (by omega),aY];obtain⟨H',a0',h1,h2,h3,h4⟩:=ih (k+1) N H1 m q _ (by omega) (by omega) f2 f4 (hg.ext hi1 f3) (Nat.lt_of_lt_of_le hi1 f3.le) h;refine⟨H',a0',h1,h2,(f3.trans h3).mono (by omega),λo ho _=>h4 o (Nat.lt_of_lt_of_le ho f3.le) λid off l c _ hv e=>?_⟩;rcases hv with hv|hv
   .cases hv;subst e;have:H.next.succ.succ.toNat=H.next.toNat+2:=by rw[Pth.ab,Pth.ab]
    omega
   .cases hv
  .rw[if_neg hki]at hm;rw[dn (by omega),bf];obtain⟨H1,f1,f2,f3,f4⟩:=go gC gD C D hC hD hm;unfold MT;have e1:l1 i1 (Nat.add 0 2) H=.int .i64 gC:=g2;have e2:l1 i1 (Nat.add 0 3) H=.int .i64 gD:=g3;rw[aV,e1,fN,aV,e2,fN,f1,aH,cK,add_one,wrap_small (by omega),aY];obtain⟨H',a0',h1,h2,h3,h4⟩:=ih (k+1) N H1 m q _ (by omega) (by omega) f2 f4 (hg.ext hi1 f3) (Nat.lt_of_lt_of_le hi1 f3.le) h;refine⟨H',a0',h1,h2,(f3.trans h3).mono (by omega),λo ho _=>h4 o (Nat.lt_of_lt_of_le ho f3.le) λid off l c _ hv e=>?_⟩;rcases hv with hv|hv
   .cases hv;subst e;have:H.next.succ.succ.toNat=H.next.toNat+2:=by rw[Pth.ab,Pth.ab]
    omega
   .cases hv
def M4(addv:FP)(out p:List (List AVal))(j:Nat):Option (List AVal):=
 match out[j]?,p[j]? with
 |some a,some b=>(addv (.agg a) (.agg b)).bind rowOf
 |_,_=>none
theorem Al{k0:Int->Int->AVal->Int->Pth->Nat->AVal->AH->R}{i w:Nat}{a25 a0:AVal}{a27:Int}{i1 o:Pth}{p out0:List (List AVal)}(hpl:p.length=w+1)(hw:w<50000)(hi:i<50000)(res:Nat->List AVal)(hres:∀j,j<=w->M4 addv out0 p j=some (res j))(haw:Away a0 o):∀(r j N:Nat) (H:AH) (cur:List (List AVal)),j+r=w+1->r<N->Nw H o 4 cur->cur.length=w+1->(∀m,j<=m->cur[m]?=out0[m]?)->Sl H 4 a0 p->
 ∃H' cur',loopN Kt.no (GJ k0) N a0 (.ofNat (w+1)) (.ofNat j) (.ofNat w) (.ofNat i) a25 a27 i1 0 (.sl o 0 (w+1) (w+1)) H=k0 (.ofNat w) (.ofNat (i+1)) a25 a27 i1 0 (.sl o 0 (w+1) (w+1)) H'/\Nw H' o 4 cur'/\cur'.length=w+1/\
  (∀m,m<j->cur'[m]?=cur[m]?)/\(∀m,j<=m->m<=w->cur'[m]?=some (res m))/\H'.next=H.next/\∀q,q≠o->H'.m.get .dead q=H.m.get .dead q:=by
 intro r
 induction r with
 |zero=>intro j N H cur hjr hN' hout hlen hcur hp;obtain⟨N,rfl⟩:∃M,N=M+1:=⟨N-1,by omega⟩;refine⟨H,cur,?_,hout,hlen,λ_ _=>rfl,λm h1 h2=>absurd h2 (by omega),rfl,λ_ _=>rfl⟩;rw[bW];unfold GJ;rw[dn (by omega),bf,add_one,wrap_small (by omega),aY]
 |succ r ih=>
  intro j N H cur hjr hN' hout hlen hcur hp;obtain⟨N,rfl⟩:∃M,N=M+1:=⟨N-1,by omega⟩;rw[bW];obtain⟨L,hL⟩:∃L,L=loopN Kt.no (GJ k0) N:=⟨_,rfl⟩;rw[<-hL];unfold GJ;rw[dm (show j<w+1 by omega),bV];unfold MW MV;have hjc:j<cur.length:=by omega
  have hjp:j<p.length:=by omega
  obtain⟨q,off,e1,e2,e3⟩:=hp.at_ hjp;have hr:=hres j (by omega);unfold M4 at hr;rw[<-hcur j (Nat.le_refl _),List.getElem?_eq_getElem hjc,List.getElem?_eq_getElem hjp]at hr;simp only[Option.bind_eq_some_iff]at hr;obtain⟨v,hv,hr⟩:=hr;cases lS hr;obtain⟨⟨row,er,hl,_⟩,ha2⟩:=hN.add _ _ _ hv;cases er;obtain⟨H1,s1,s2,s3,s4⟩:=hout.st hjc hl (λH64=>iv (wrapF .i64 (addF (.ofNat j) (.ofNat 1))) λn65=>L a0 (.ofNat (w+1)) n65 (.ofNat w) (.ofNat i) a25 a27 i1 0 (.sl o 0 (w+1) (w+1)) H64);simp only[cK,fM (show j<w+1 by omega),ba,hout.lA hjc,aO];rw[hp.mv,e1,ba,e2,aO,ha2,aH,s1,add_one,wrap_small (by omega),aY,hL];obtain⟨H',cur',f1,f2,f3,f4,f5,f6,f7⟩:=ih (j+1) N H1 (cur.set j (res j)) (by omega) (by omega) s2 (by rw[List.length_set];exact hlen) (λm hm=>by rw[List.getElem?_set_ne (by omega)];exact hcur m (by omega)) (Sl.other hp haw (by rw[s3];exact Nat.le_refl _) s4);refine⟨H',cur',f1,f2,f3,λm hm=>?_,λm h1 h2=>?_,f6.trans s3,λq hq=>(f7 q hq).trans (s4 q hq)⟩
  .rw[f4 m (by omega),List.getElem?_set_ne (by omega)]
  .by_cases h:m=j
   .subst h;rw[f4 m (by omega),List.getElem?_set_self (by omega)]
   .exact f5 m (by omega) h2
omit hN in
def Hd(mulv addv:FP)(sgnv:AVal->Option Int)(nrmv:AVal->Option AVal)(w:Nat)(A B C D:AVal):Nat->List (List AVal)->List (List AVal)->Option (List (List AVal))
 |_,[],out=>some out
 |i,c::r,out=>(sgnv (.agg c)).bind λs=>bif intEqF s (.ofNat 0)then Hd mulv addv sgnv nrmv w A B C D (i+1) r out else
  ((nrmv (.agg c)).bind rowOf).bind λc0=>(Iu mulv addv i A B C D 0 w [c0]).bind λp=>(It (M4 addv out p) 0 (w+1)).bind λout2=>Hd mulv addv sgnv nrmv w A B C D (i+1) r out2
theorem Am{w:Nat}{a25:AVal}{i1 o:Pth}{gA gB gC gD:Int}{A B C D:AVal}{poly:List (List AVal)}{H0:AH}(hA:ofv gA=some A)(hB:ofv gB=some B)(hC:ofv gC=some C)(hD:ofv gD=some D)(hw:w<40000)(hpl:poly.length=w+1)(ho:H0.next.toNat<=o.toNat)(haw:Away a25 o)(hi1o:i1≠o):∀(cs:List (List AVal)) (i N c:Nat) (H:AH) (cur out:List (List AVal)),poly.drop i=cs->cs.length<N->i+cs.length=w+1->Nw H o 4 cur->cur.length=w+1->o.toNat<H.next.toNat->Sl H 4 a25 poly->B4 H i1 [.int .i64 gA,.int .i64 gB,.int .i64 gC,.int .i64 gD]->i1.toNat<H.next.toNat->Ext c H0 H->Hd mulv addv sgnv nrmv w A B C D i cs cur=some out->∃H',loopN Kt.no Hb N (.ofNat w) (.ofNat i) a25 (.ofNat (w+1)) i1 0 (.sl o 0 (w+1) (w+1)) H=.ok (.sl o 0 (w+1) (w+1)) H'/\Nw H' o 4 out/\out.length=w+1/\Ext (c+cs.length*(3*w+2)) H0 H':=by
 intro cs
 induction cs with
 |nil=>intro i N c H cur out hd hN' hi hout hlen hon hp hg hi1 hx h;cases h;obtain⟨N,rfl⟩:∃M,N=M+1:=⟨N-1,by omega⟩;simp only[List.length_nil,Nat.add_zero]at hi;refine⟨H,?_,hout,hlen,hx.mono (by omega)⟩;rw[bW];unfold Hb;rw[dn (by omega),bf,cK];rfl
 |cons c0 cs ih=>
  intro i N c H cur out hd hN' hi hout hlen hon hp hg hi1 hx h;simp only[List.length_cons]at hN' hi;obtain⟨N,rfl⟩:∃M,N=M+1:=⟨N-1,by omega⟩;have hip:i<poly.length:=by omega
  have hci:poly[i]=c0:=by have:=congrArg (λq=>q[0]?) hd;simp only[List.getElem?_drop,Nat.add_zero,List.getElem?_eq_getElem hip,List.getElem?_cons_zero]at this;exact Option.some.inj this
  have hd':poly.drop (i+1)=cs:=by rw[<-List.drop_drop,hd];rfl
  have hc0:c0.length=4:=by rw[<-hci];exact hp.each _ (List.getElem_mem hip)
  rw[bW];obtain⟨L,hL⟩:∃L,L=loopN Kt.no Hb N:=⟨_,rfl⟩;rw[<-hL];unfold Hb;rw[dm (show i<w+1 by omega),bV];unfold MY;obtain⟨q,off,e1,e2,e3⟩:=hp.at_ hip;rw[e1,ba,e2,aO,bJ,hci];have hE1:=(Ext.refl H).add (.arr (lenN [AVal.bool false,.snil,.bool false,.snil]) 1 [AVal.bool false,.snil,.bool false,.snil] .nil);have hb:=B4.new [AVal.bool false,.snil,.bool false,.snil] rfl H;have hn1:(H.add (.arr (lenN [AVal.bool false,.snil,.bool false,.snil]) 1 [AVal.bool false,.snil,.bool false,.snil] .nil)).next=H.next.succ:=rfl
  generalize (H.add (.arr (lenN [AVal.bool false,.snil,.bool false,.snil]) 1 [AVal.bool false,.snil,.bool false,.snil] .nil))=H22 at *;obtain⟨H23,s1,s2,s3,s4⟩:=hb.st hc0 (λH23=>Lb L (.ofNat i) (.ofNat w) (.ofNat i) H.next 0 a25 (.ofNat (w+1)) i1 0 (.sl o 0 (w+1) (w+1)) H23);rw[s1];have hE2:Ext 1 H H23:=(hE1.only (Nat.le_refl _) s3 s4).mono (by omega);have hn2:H23.next=H.next.succ:=s3.trans hn1
  have tn2:H23.next.toNat=H.next.toNat+1:=by rw[hn2,Pth.ab]
  unfold Lb;rw[s2.lA,aO];unfold Hd at h;simp only[Option.bind_eq_some_iff]at h;obtain⟨sg,hsg,h⟩:=h;rw[hN.sgn _ _ hsg,aH,i_];cases hz:intEqF sg (.ofNat 0)with
  |true=>rw[hz]at h;rw[bV,add_one,wrap_small (by omega),aY,hL];obtain⟨H',f1,f2,f3,f4⟩:=ih (i+1) N (c+1) H23 cur out hd' (by omega) (by omega) (hout.ext hon hE2) hlen (Nat.lt_of_lt_of_le hon hE2.le) (hp.ext hE2) (hg.ext hi1 hE2) (Nat.lt_of_lt_of_le hi1 hE2.le) (hx.trans hE2) h;refine⟨H',f1,f2,f3,f4.mono ?_⟩;rw[List.length_cons,Nat.add_mul,Nat.one_mul];omega
  |false=>
   rw[hz]at h;rw[bf];unfold MX;simp only[cond,Option.bind_eq_some_iff]at h;obtain⟨c1,⟨vc,hvc,hrc⟩,p,hpp,out2,hout2,h⟩:=h;cases lS hrc;obtain⟨⟨rc,erc,hlc,_⟩,hn85⟩:=hN.nrm _ _ hvc;cases erc;rw[s2.lA,aO,hn85,aH];obtain⟨b1,b2⟩:=qO (z:=[AVal.bool false,.snil,.bool false,.snil]) (show 0<4 by omega) hlc H23 (λi32 H33=>La L (.sl i32 0 1 1) (.ofNat i) (.ofNat w) (.ofNat i) a25 (.ofNat (w+1)) i1 0 (.sl o 0 (w+1) (w+1)) H33);rw[b1];have hE3:=(Ext.refl H23).add (.arr 4 1 [AVal.bool false,.snil,.bool false,.snil] (T8.put [] c1 (key 0) .nil));have hn3:(H23.add (.arr 4 1 [AVal.bool false,.snil,.bool false,.snil] (T8.put [] c1 (key 0) .nil))).next=H23.next.succ:=rfl
   generalize (H23.add (.arr 4 1 [AVal.bool false,.snil,.bool false,.snil] (T8.put [] c1 (key 0) .nil)))=H33 at *;have tn3:H33.next.toNat=H23.next.toNat+1:=by rw[hn3,Pth.ab]
   have hE13:Ext 2 H H33:=(hE2.trans hE3).mono (by omega);have hsl:=b2.sl (cap:=1) (by omega);unfold La;rw[eF];obtain⟨H4,a0',g1,g2,g3,g4⟩:=Ak hN (k0:=L) (i:=i) (w:=w) (a25:=a25) (a5:=.sl o 0 (w+1) (w+1)) (a27:=.ofNat (w+1)) hA hB hC hD (by omega) w 0 1000000 H33 [c1] p (.sl H23.next 0 1 1) (by omega) (by omega) hsl rfl (hg.ext hi1 hE13) (Nat.lt_of_lt_of_le hi1 hE13.le) hpp;rw[g1];have hlenF:lenF (.sl o 0 (w+1) (w+1))=.int .i64 (.ofNat (w+1)):=rfl;rw[hlenF,aU,eF];have hplen:p.length=w+1:=by rw[Aj hpp];simp;omega
   obtain⟨m1,m2⟩:=qN hout2;have hE14:=hE13.trans g3
   have hawp:Away a0' o:=g4 o (Nat.lt_of_lt_of_le hon hE13.le) λid off l cc hl hv e=>by
    rcases hv with hv|hv
    .cases hv;subst e;omega
    .cases hv
   obtain⟨H5,cur',t1,t2,t3,t4,t5,t6,t7⟩:=Al hN (k0:=L) (i:=i) (w:=w) (o:=o) (p:=p) (out0:=cur) (a0:=a0') (a25:=a25) (a27:=.ofNat (w+1)) (i1:=i1) hplen (by omega) (show i<50000 by omega) (λj=>out2.getD j []) (λj hj=>by
    have:=m2 j (by omega);rw[Nat.zero_add,List.getElem?_eq_getElem (by omega)]at this
    rw[this,List.getD_eq_getElem?_getD,List.getElem?_eq_getElem (by omega)];rfl) hawp (w+1) 0 1000000 H4 cur (by omega) (by omega) (hout.ext hon hE14) hlen (λ_ _=>rfl) g2
   rw[t1]
   have hcur':cur'=out2:=by
    apply List.ext_getElem?;intro m;by_cases hm:m<w+1
    .rw[t5 m (Nat.zero_le _) (by omega),List.getD_eq_getElem?_getD,List.getElem?_eq_getElem (by omega)];rfl
    .rw[List.getElem?_eq_none (by omega),List.getElem?_eq_none (by omega)]
   subst hcur';have hX:Ext (c+(2+3*w)) H0 H5:=(hx.trans hE14).only ho t6 t7;rw[hL];have hn5:H4.next.toNat<=H5.next.toNat:=by rw[t6];exact Nat.le_refl _
   obtain⟨H',f1,f2,f3,f4⟩:=ih (i+1) N _ H5 cur' out hd' (by omega) (by omega) t2 t3 (Nat.lt_of_lt_of_le (Nat.lt_of_lt_of_le hon hE14.le) hn5) (Sl.other (hp.ext hE14) haw hn5 t7) ((hg.ext hi1 hE14).keep (t7 i1 hi1o)) (Nat.lt_of_lt_of_le (Nat.lt_of_lt_of_le hi1 hE14.le) hn5) hX h;refine⟨H',f1,f2,f3,f4.mono ?_⟩;rw[List.length_cons,Nat.add_mul,Nat.one_mul];omega
omit hN in
theorem Ao{w n:Nat}{a29:AVal}{i1 o:Pth}(hn:n<50000):∀(r j N:Nat) (H:AH) (cur:List (List AVal)),j+r=n->r<N->Nw H o 4 cur->cur.length=n->(∀m,m<j->cur[m]?=some Fk)->∃H',loopN Kt.no Hc N (.ofNat w) (.ofNat j) (.ofNat n) a29 i1 0 (.sl o 0 n n) H=Lc (.ofNat w) a29 i1 0 (.sl o 0 n n) H'/\Nw H' o 4 (List.replicate n Fk)/\H'.next=H.next/\∀q,q≠o->H'.m.get .dead q=H.m.get .dead q:=by
 intro r
 induction r with
 |zero=>
  intro j N H cur hjr hN' hout hlen hz;obtain⟨N,rfl⟩:∃M,N=M+1:=⟨N-1,by omega⟩;refine⟨H,?_,?_,rfl,λ_ _=>rfl⟩
  .rw[bW];unfold Hc;rw[dn (by omega),bf]
  .have:cur=List.replicate n Fk:=by
    apply List.ext_getElem?;intro m;by_cases hm:m<n
    .rw[hz m (by omega),List.getElem?_replicate,if_pos hm]
    .rw[List.getElem?_eq_none (by omega),List.getElem?_eq_none (by simp;omega)]
   rw[<-this];exact hout
 |succ r ih=>
  intro j N H cur hjr hN' hout hlen hz;obtain⟨N,rfl⟩:∃M,N=M+1:=⟨N-1,by omega⟩;rw[bW];obtain⟨L,hL⟩:∃L,L=loopN Kt.no Hc N:=⟨_,rfl⟩;rw[<-hL];unfold Hc;rw[dm (show j<n by omega),bV];unfold MR MQ;obtain⟨H1,s1,s2,s3,s4⟩:=hout.st (show j<cur.length by omega) (row:=Fk) rfl (λH14=>iv (wrapF .i64 (addF (.ofNat j) (.ofNat 1))) λn15=>L (.ofNat w) n15 (.ofNat n) a29 i1 0 (.sl o 0 n n) H14);rw[qL,aH,fM (show j<n by omega),ba,s1,add_one,wrap_small (by omega),aY,hL]
  obtain⟨H',f1,f2,f3,f4⟩:=ih (j+1) N H1 (cur.set j Fk) (by omega) (by omega) s2 (by rw[List.length_set];exact hlen) (λm hm=>by
   by_cases h:m=j
   .subst h;exact List.getElem?_set_self (by omega)
   .rw[List.getElem?_set_ne (by omega)];exact hz m (by omega))
  exact⟨H',f1,f2,f3.trans s3,λq hq=>(f4 q hq).trans (s4 q hq)⟩
theorem Aq{w:Nat}{a29:AVal}{gA gB gC gD:Int}{A B C D:AVal}{poly out:List (List AVal)}{H:AH}(hA:ofv gA=some A)(hB:ofv gB=some B)(hC:ofv gC=some C)(hD:ofv gD=some D)(hw:w<40000)(hpl:poly.length=w+1)(hp:Sl H 4 a29 poly)(h:Hd mulv addv sgnv nrmv w A B C D 0 poly (List.replicate (w+1) Fk)=some out):∃H1,Ir a29 (.agg [.int .i64 gA,.int .i64 gB,.int .i64 gC,.int .i64 gD]) H=.ok (.sl H.next.succ 0 (w+1) (w+1)) H1/\Nw H1 H.next.succ 4 out/\out.length=w+1/\Ext (2+(w+1)*(3*w+2)) H H1:=by
 unfold Ir;rw[bJ];have hb:=B4.new [AVal.int .i64 gA,.int .i64 gB,.int .i64 gC,.int .i64 gD] rfl H;have hE1:=(Ext.refl H).add (.arr (lenN [AVal.int .i64 gA,.int .i64 gB,.int .i64 gC,.int .i64 gD]) 1 [AVal.int .i64 gA,.int .i64 gB,.int .i64 gC,.int .i64 gD] .nil);have hn1:(H.add (.arr (lenN [AVal.int .i64 gA,.int .i64 gB,.int .i64 gC,.int .i64 gD]) 1 [AVal.int .i64 gA,.int .i64 gB,.int .i64 gC,.int .i64 gD] .nil)).next=H.next.succ:=rfl
 generalize (H.add (.arr (lenN [AVal.int .i64 gA,.int .i64 gB,.int .i64 gC,.int .i64 gD]) 1 [AVal.int .i64 gA,.int .i64 gB,.int .i64 gC,.int .i64 gD] .nil))=H2 at *;have t1:H.next.succ.toNat=H.next.toNat+1:=Pth.ab _
 have hp2:=hp.ext hE1;unfold M0;rw[hp2.len,aU,hpl,sub_one,wrap_small (by omega),aY];unfold MZ;have hsmall:small (w+1) 64=true:=by unfold small;rw[Bool.and_eq_true,Bool.and_eq_true];exact⟨Nat.ble_eq_true_of_le (by show(w+1)*64+1<=_;omega),rfl,Nat.ble_eq_true_of_le (by omega)⟩
 rw[add_one,wrap_small (by omega),aY,ql hsmall,cK];have hlen:lenF (.sl H2.next 0 (w+1) (w+1))=.int .i64 (.ofNat (w+1)):=rfl;rw[hlen,aU,eF,hn1];have hnew:=Nw.new 4 (w+1) [AVal.bool false,.snil,.bool false,.snil] (by omega) rfl H2;have hE2:=hE1.add (.arr 4 (w+1) [AVal.bool false,.snil,.bool false,.snil] .nil);have hE12:=(Ext.refl H2).add (.arr 4 (w+1) [AVal.bool false,.snil,.bool false,.snil] .nil);have hn2:(H2.add (.arr 4 (w+1) [AVal.bool false,.snil,.bool false,.snil] .nil)).next=H.next.succ.succ:=by rw[dO,hn1]
 rw[hn1]at hnew;generalize (H2.add (.arr 4 (w+1) [AVal.bool false,.snil,.bool false,.snil] .nil))=H7 at *;have t2:H7.next.toNat=H.next.toNat+2:=by rw[hn2,Pth.ab,t1]
 have ht1:H2.next.toNat=H.next.toNat+1:=by rw[hn1,t1]
 obtain⟨H8,f1,f2,f3,f4⟩:=Ao (w:=w) (a29:=a29) (i1:=H.next) (show w+1<50000 by omega) (w+1) 0 1000000 H7 _ (by omega) (by omega) hnew (List.length_replicate ..) (λm hm=>absurd hm (by omega));rw[f1];have hE8:Ext 2 H H8:=(hE2.only (by omega) f3 f4).mono (by omega);have n1:H.next≠H.next.succ:=ne_of_lt (by omega)
 have hb8:B4 H8 H.next [AVal.int .i64 gA,.int .i64 gB,.int .i64 gC,.int .i64 gD]:=(hb.ext (by omega) hE12).keep (f4 _ n1)
 have t8:H8.next.toNat=H.next.toNat+2:=by rw[f3];exact t2
 have hp8:=hp.ext hE8;unfold Lc;rw[hp8.mv,hp8.len,aU,eF,hpl];obtain⟨H',g1,g2,g3,g4⟩:=Am hN hA hB hC hD hw hpl (show H.next.toNat<=H.next.succ.toNat by omega) (hp.qk (by omega)) n1 poly 0 1000000 2 H8 (List.replicate (w+1) Fk) out rfl (by omega) (by omega) f2 (List.length_replicate ..) (by omega) hp8 hb8 (by omega) hE8 h;rw[hpl]at g4;exact⟨H',g1,g2,g3,g4⟩
end
end Go.Ex.KB
namespace Go.Ex
def M5(esz c:Nat)(z:List AVal)(rows:List (List AVal))(H:AH):R:=fz (lenK rows) λn=>putElsC 0 rows .nil λe=>(putHc (keyC H c)).run (.arr esz n z e) H.m λm=>.ok (.sl (keyC H c) 0 n n) ⟨succF (keyC H c),m⟩
theorem Av(esz c:Nat)(z:List AVal)(rows:List (List AVal))(H:AH):M5 esz c z rows H=.ok (.sl (keyC H c) 0 rows.length rows.length) ⟨(keyC H c).succ,H.m.put .dead (.arr esz rows.length z (putEls 0 rows .nil)) (keyC H c)⟩:=by unfold M5;rw[aN,dg,eh,ff,hJ,cZ]
theorem lW{rows:List (List AVal)}{z:List AVal}{esz:Nat}(hp:0<esz)(hr:∀r∈rows,r.length=esz){j:Nat}(hj:j<rows.length):elem j z (putEls 0 rows .nil)=rows[j]:=by
 have hl:=hr _ (List.getElem_mem hj);have hne:rows[j]≠[]:=by intro e;rw[e]at hl;simp at hl;omega
 rw[c_,if_pos (Nat.zero_le _),Nat.sub_zero,List.getElem?_eq_getElem hj];exact bE hne
def FW{α:Type}(o:Option α)(k:α->R):R:=Option.rec (motive:=λ_=>R) .no k o
theorem cB{α:Type}{o:Option α}{k:α->R}{v:AVal}{H:AH}(h:FW o k=.ok v H):∃a,o=some a/\k a=.ok v H:=by
 cases o with
 |none=>cases h
 |some a=>exact⟨a,rfl,h⟩
def Jq(esz:Nat)(rows:List (List AVal)):Bool:=List.rec (motive:=λ_=>Bool) true (λr _ ih=>Bool.rec (motive:=λ_=>Bool) false ih (lenG r esz)) rows
theorem je{esz:Nat}{rows:List (List AVal)}(h:Jq esz rows=true):∀r∈rows,r.length=esz:=by
 induction rows with
 |nil=>intro r hr;cases hr
 |cons a l ih=>
  have h:Bool.rec (motive:=λ_=>Bool) false (Jq esz l) (lenG a esz)=true:=h;cases hb:lenG a esz with
  |false=>rw[hb]at h;cases h
  |true=>
   rw[hb]at h;intro r hr;rcases List.mem_cons.1 hr with rfl|hr
   .rw[eg]at hb
    have key:∀(l:List AVal) (n:Nat),lenIs l n=true->l.length=n:=by
     intro l
     induction l with
     |nil=>intro n h;exact(Nat.eq_of_beq_eq_true h).symm
     |cons a l ih=>intro n h;cases n with
      |zero=>cases h
      |succ n=>rw[List.length_cons,ih n h]
    exact key _ _ hb
   .exact ih h r hr
end Go.Ex
namespace Go.Ex.KB
open Go Go.Ex Go.Ex.KD
theorem jf:NumS mulv addv ofv sgnv nrmv where
 mul x y v h:=by obtain⟨H1,h1⟩:=bK h;obtain⟨h2,h3⟩:=fQ Ar h1;exact⟨h2,λH=>by unfold FU;exact bM (h3 H)⟩
 add x y v h:=by obtain⟨H1,h1⟩:=bK h;obtain⟨h2,h3⟩:=fQ jc h1;exact⟨h2,λH=>by unfold Fy;exact bM (h3 H)⟩
 of_ n v h:=by obtain⟨H1,h1⟩:=bK h;exact At h1
 sgn x n h H:=by unfold Gq;exact bM (Au h H)
 nrm x v h:=by obtain⟨H1,h1⟩:=bK h;obtain⟨h2,h3⟩:=lV eI h1;exact⟨h2,λH=>by unfold F9;exact bM (h3 H)⟩
def Iv(p g:AVal)(H:AH):R:=FW (elsOf H 4 p) λrows=>aggF g λl=>l4F l λa b c d=>aM a λgA=>aM b λgB=>aM c λgC=>aM d λgD=>
 fz (lenK rows) λn=>Fe (Jq 4 rows) <| Fe (Nat.blt 0 n) <| Fe (Nat.blt n 40000) <| FW (ofv gA) λA=>FW (ofv gB) λB=>FW (ofv gC) λC=>FW (ofv gD) λD=>
 FW (Hd mulv addv sgnv nrmv (Nat.pred n) A B C D 0 rows (List.replicate n Fk)) λout=>M5 4 (2+n*(3*Nat.pred n+2)) [.bool false,.snil,.bool false,.snil] out H
theorem Aw{p g v:AVal}{H H':AH}(hw:Wf H)(h:Iv p g H=.ok v H'):∃v1 H1 c,M3 [p,g] H=.ok v1 H1/\Ext c H H1/\Told H H1 c v1 v H':=by
 unfold Iv at h;obtain⟨rows,he,h⟩:=cB h;obtain⟨l,rfl,h⟩:=di h;obtain⟨a,b,c,d,rfl,h⟩:=fl h;obtain⟨gA,rfl,h⟩:=a9 h;obtain⟨gB,rfl,h⟩:=a9 h;obtain⟨gC,rfl,h⟩:=a9 h;obtain⟨gD,rfl,h⟩:=a9 h;have h:=(aN (lenK rows) _).symm.trans h;rw[hJ,cZ]at h;obtain⟨c1,h⟩:=aA h;obtain⟨c2,h⟩:=aA h;obtain⟨c3,h⟩:=aA h;obtain⟨A,hA,h⟩:=cB h;obtain⟨B,hB,h⟩:=cB h;obtain⟨C,hC,h⟩:=cB h;obtain⟨D,hD,h⟩:=cB h;obtain⟨out,ho,h⟩:=cB h;rw[Av]at h;rw[g_]at he;have hpos:0<rows.length:=Nat.le_of_ble_eq_true c2;have hlt:rows.length<40000:=Nat.le_of_ble_eq_true c3;obtain⟨w,hwl⟩:∃w,rows.length=w+1:=⟨rows.length-1,by omega⟩;rw[hwl]at h ho;have hsl:=Sl.lQ hw he (by omega) (je c1);obtain⟨H1,f1,f2,f3,f4⟩:=Aq jf hA hB hC hD (show w<40000 by omega) hwl hsl (show Hd mulv addv sgnv nrmv w A B C D 0 rows (List.replicate (w+1) Fk)=some out from ho);cases h;refine⟨_,H1,_,f1,f4,?_⟩;obtain⟨d1,els1,g1,g2⟩:=f2.is;have hk:H.next.toNat<=H.next.succ.toNat:=by rw[Pth.ab];omega
 have hel:∀j,j<w+1->elem j [AVal.bool false,.snil,.bool false,.snil] (putEls 0 out .nil)=elem j d1 els1:=λj hj=>(lW (by omega) f2.each (by omega)).trans (g2 j (by omega)).symm
 rw[f3]at g1⊢;exact Told.sl H.next.succ (w+1) (w+1) 4 (w+1) _ d1 _ els1 g1 hk hel
theorem Ax{P:Program}{ω:Nat->Value}(hω:∀i,(ω i).oneCell'=true)(hm:P.follows .mixedOrders=true)(hT:TabOk P ω FN):OrcOk P ω 276 (natK (ar2 Iv)):=by refine iA hω hm hT (show Adq FN (key 276) M3 from Ae) ?_;intro args H v H' hw h;obtain⟨p,l,rfl,h1⟩:=aQ (show consA args (λa l=>consA l λb r=>nilA r (Iv a b H))=.ok v H' from h);obtain⟨g,l,rfl,h2⟩:=aQ h1;obtain⟨rfl,h3⟩:=cg h2;exact Aw hw h3
end Go.Ex.KB
namespace Go.Ex
open Go
theorem fR(b:Bool):boolEq b b=true:=by cases b<;>rfl
structure B2(H:AH)(id:Pth)(a b:AVal):Prop where
 is:∃d els,H.m.get .dead id=.arr 2 1 d els/\elem 0 d els=[a,b]
theorem B2.lA{H:AH}{id:Pth}{a b:AVal}(h:B2 H id a b):Go.Ex.lA id true 2 0 H=.agg [a,b]:=by obtain⟨d,els,h1,h2⟩:=h.is;rw[bo];unfold loadAt;rw[h1];unfold cellsAt;show(bif Nat.blt 0 1 then single true (takeN 2 (dropN 0 (elem 0 d els)))else .bad)=_;rw[h2];rfl
theorem B2.l1{H:AH}{id:Pth}{a b:AVal}(h:B2 H id a b):Go.Ex.l1 id 0 H=a/\Go.Ex.l1 id 1 H=b:=by
 obtain⟨d,els,h1,h2⟩:=h.is;have key:∀off,Go.Ex.l1 id off H=loadAt H false 1 id off:=λoff=>dE H id off
 refine⟨?_,?_⟩
 all_goals
  rw[key];unfold loadAt;rw[h1];unfold cellsAt
 .show(bif Nat.blt 0 1 then single false (takeN 1 (dropN 0 (elem 0 d els)))else .bad)=_;rw[h2];rfl
 .show(bif Nat.blt 0 1 then single false (takeN 1 (dropN 1 (elem 0 d els)))else .bad)=_;rw[h2];rfl
theorem B2.keep{H H1:AH}{id:Pth}{a b:AVal}(h:B2 H id a b)(hs:H1.m.get .dead id=H.m.get .dead id):B2 H1 id a b:=by obtain⟨d,els,h1,h2⟩:=h.is;exact⟨⟨d,els,hs.trans h1,h2⟩⟩
theorem B2.st{H:AH}{id:Pth}{a b a' b':AVal}(h:B2 H id a b)(k:AH->R):∃H',stK 2 (.ptr id 0) (.agg [a',b']) H k=k H'/\B2 H' id a' b'/\H'.next=H.next/\∀q,q≠id->H'.m.get .dead q=H.m.get .dead q:=by
 obtain⟨d,els,h1,h2⟩:=h.is;have hc:overAt (Nat.mod 0 2) (AVal.agg [a',b']).cells (elem (Nat.div 0 2) d els)=some [a',b']:=by show overAt 0 [a',b'] (elem 0 d els)=_;rw[h2];rfl
 refine⟨_,lO h1 rfl rfl rfl hc,⟨⟨d,_,aJ _ _,?_⟩⟩,rfl,λq hq=>af (Ne.symm hq) _⟩;show orElse d (T8.get [] (key 0) (T8.put [] _ (key 0) els))=_;rw[aL];rfl
theorem B2.new(a b:AVal)(H:AH):B2 (H.add (.arr (lenN [a,b]) 1 [a,b] .nil)) H.next a b:=⟨⟨_,_,bZ _,by unfold elem;rw[get_nil];rfl⟩⟩
theorem B4.fT{H:AH}{id:Pth}{a b c e:AVal}(h:B4 H id [a,b,c,e]):Go.Ex.lA id true 2 0 H=.agg [a,b]/\Go.Ex.lA id true 2 2 H=.agg [c,e]:=by
 obtain⟨d,els,h1,h2⟩:=h.is;refine⟨?_,?_⟩
 all_goals
  rw[bo];unfold loadAt;rw[h1];unfold cellsAt
 .show(bif Nat.blt 0 1 then single true (takeN 2 (dropN 0 (elem 0 d els)))else .bad)=_;rw[h2];rfl
 .show(bif Nat.blt 0 1 then single true (takeN 2 (dropN 2 (elem 0 d els)))else .bad)=_;rw[h2];rfl
end Go.Ex
namespace Go.Ex.KB
open Go Go.Ex Go.Ex.KD
theorem Ay(op:(AVal->AVal->AVal->AVal->AVal->AH->R)->R)(J:AVal->AVal->AVal->AVal->AVal->AH->R)(H:AH):gdR 5 true (.bool true) op J H=op J:=rfl
theorem qS(op:(AVal->AVal->AVal->AH->R)->R)(J:AVal->AVal->AVal->AH->R)(H:AH):gdR 3 true (.bool true) op J H=op J:=rfl
theorem Az(op:(AVal->AVal->AVal->AH->R)->R)(J:AVal->AVal->AVal->AH->R)(H:AH):gdR 3 true (.bool false) op J H=J undefV undefV undefV H:=rfl
theorem AA:intEqF (.ofNat 1) (.ofNat 1)=true:=rfl
theorem AB:intEqF (.ofNat 2) (.ofNat 1)=false:=rfl
theorem qT(n:Nat)(k:AVal->R):pv (.mag n) k=k (.mag n):=by
 first
  |rfl
  |(show fz n (λn=>k (.mag n))=_;rw[aN])
theorem AD(n j:Nat)(k:AVal->R):pv (.mptr n j) k=k (.mptr n j):=by
 first
  |rfl
  |(show fz n (λn=>k (.mptr n j))=_;rw[aN])
  |(show fz j (λj=>k (.mptr n j))=_;rw[aN])
  |(show fz n (λn=>fz j λj=>k (.mptr n j))=_;rw[aN,aN])
theorem qU(b:Bool)(k:AVal->R):pv (.bool b) k=k (.bool b):=by
 first
  |rfl
  |(cases b<;>rfl)
def FX(s:Bool)(n:Nat):Bool:=Nat.beq n 1&&!s
theorem qV(s:Bool)(n:Nat)(H:AH):∃H1,GD (.agg [.bool s,.mag n]) H=.ok (.bool (FX s n)) H1/\Ext 1 H H1:=by
 unfold GD;rw[bJ];have hb:=B2.new (.bool s) (.mag n) H;have hE:=(Ext.refl H).add (.arr (lenN [AVal.bool s,.mag n]) 1 [AVal.bool s,.mag n] .nil);generalize (H.add (.arr (lenN [AVal.bool s,.mag n]) 1 [AVal.bool s,.mag n] .nil))=H2 at *;obtain⟨g0,g1⟩:=hb.l1;have e1:l1 H.next (Nat.add 0 1) H2=.mag n:=g1
 refine⟨H2,?_,hE⟩;unfold My;rw[aV,e1,qT];show aI (.int .i64 (.ofNat (magN n))) _=_;rw[aU];unfold FX;cases hm:Nat.blt n 4294967296 with
 |true=>
  have h1:magN n=1:=by unfold magN;rw[hm];rfl
  have h2:magD n 0=n:=by show Nat.mod n 4294967296=n;exact Nat.mod_eq_of_lt (Nat.le_of_ble_eq_true hm)
  have h3:iaI 1 (.mag n) (.ofNat 0)=.mptr n 0:=by show Bool.rec (motive:=λ_=>AVal) .bad (Bool.rec (motive:=λ_=>AVal) .bad (.mptr n 0) (Nat.blt 0 (magN n))) (Nat.beq 1 1)=_;rw[h1];rfl
  have h4:∀k,asI .u32 (loadK false 1 (.mptr n 0) H2) k=k (.ofNat n):=λk=>by
   have:loadK false 1 (.mptr n 0) H2=.int .u32 (.ofNat (magD n 0)):=by rw[bj];rfl
   rw[this,h2,ou];rfl
  rw[h1,AA];erw[Ay];rw[aV,e1,qT,h3,AD,h4];cases hn:Nat.beq n 1 with
  |true=>
   have hi:intEqF (.ofNat n) (.ofNat 1)=true:=hn;rw[hi];have hp:pickF (.bool true) (.bool true) (.bool false)=.bool true:=rfl;have ha:∀(b:Bool) (k:Bool->R),asB (.bool b) k=k b:=λb k=>rfl
   show asB (pickF (.bool true) (.bool true) (.bool false)) _=_;rw[hp,ha];erw[qS];rw[aV,g0,qU];cases s<;>rfl
  |false=>have hi:intEqF (.ofNat n) (.ofNat 1)=false:=hn;rw[hi];rfl
 |false=>
  have h1:magN n=2:=by unfold magN;rw[hm];rfl
  rw[h1,AB]
  have hn:Nat.beq n 1=false:=by
   cases hn:Nat.beq n 1 with
   |false=>rfl
   |true=>rw[Nat.eq_of_beq_eq_true hn]at hm;cases hm
  rw[hn];rfl
theorem AE{H4 H3 H2 H1 H0:AH}{f g:AH->AVal}{v u:AVal}(h0:f H0=v)(h1:f H1=v)(g0:g H0=u)(g1:g H1=u)(hv:v.eqv v=true)(hu:u.eqv u=true)(r:R):chkK [H4,H3,H2,H1,H0] 4 [⟨0,1,f,v⟩,⟨0,1,g,u⟩] r=r:=by
 unfold chkK;have key:∀(f:AH->AVal) (v:AVal),f H0=v->f H1=v->v.eqv v=true->chk1 ⟨0,1,f,v⟩ [H4,H3,H2,H1,H0] 4=true:=λf v h0 h1 hv=>by show Bool.rec (motive:=λ_=>Bool) false (Bool.rec (motive:=λ_=>Bool) false true (eqvF (f H0) v)) (eqvF (f H1) v)=true;rw[h0,h1,gY,hv]
 have:chkA [H4,H3,H2,H1,H0] 4 [⟨0,1,f,v⟩,⟨0,1,g,u⟩]=true:=by show Bool.rec (motive:=λ_=>Bool) false (Bool.rec (motive:=λ_=>Bool) false true (chk1 ⟨0,1,g,u⟩ [H4,H3,H2,H1,H0] 4)) (chk1 ⟨0,1,f,v⟩ [H4,H3,H2,H1,H0] 4)=true;rw[key f v h0 h1 hv,key g u g0 g1 hu]
 rw[this]
theorem lX(b:Bool)(k:Bool->R):asB (.bool b) k=k b:=rfl
theorem qW(s:Bool)(n:Nat)(hn:Nat.beq n 0=false)(H:AH):∃m,intEqF m (.ofNat 0)=false/\Gn [.agg [.bool s,.mag n]] H=.ok (.int .i64 m) H:=by
 have h:∀H,nSg (.agg [.bool s,.mag n]) H=.ok (.int .i64 (Bool.rec (.ofNat 1) (.negSucc 0) s)) H:=λH=>by show Bool.rec (motive:=λ_=>R) (Bool.rec (motive:=λ_=>R) (.ok (.int .i64 (.ofNat 1)) H) (.ok (.int .i64 (.negSucc 0)) H) s) (.ok (.int .i64 (.ofNat 0)) H) (Nat.beq n 0)=_;rw[hn];cases s<;>rfl
 refine⟨_,?_,by unfold Gn;exact bM (show ar1 nSg [.agg [.bool s,.mag n]] H=_ from h H)⟩;cases s<;>rfl
section
variable{a0 a1 b0 b1 x y z d r:AVal}{s t:Bool}{n m:Nat}
theorem AF(hx:∀H,Fv [.agg [a0,a1],.agg [.bool t,.mag m]] H=.ok x H)(hy:∀H,Fv [.agg [b0,b1],.agg [.bool s,.mag n]] H=.ok y H)(hz:∀H,Gp [x,y] H=.ok z H)(hzr:okRow z 2)(hd:∀H,Fv [.agg [.bool s,.mag n],.agg [.bool t,.mag m]] H=.ok d H)(hr:∀H,FR [z,d] H=.ok r H)(hrr:okRow r 4)(hb:eqL [b0,b1] [b0,b1]=true){H:AH}{i1 i3 i5:Pth}(h1:B4 H i1 [a0,a1,.bool s,.mag n])(h3:B4 H i3 [b0,b1,.bool t,.mag m]){l5:List AVal}(h5:B4 H i5 l5)(n1:i1.toNat<H.next.toNat)(n3:i3.toNat<H.next.toNat)(n5:i5.toNat<H.next.toNat)(n15:i1≠i5)(n35:i3≠i5):∃H1,Jh i1 0 i3 0 i5 0 H=.ok r H1/\H1.next=H.next.succ/\∀q,q≠i5->q≠H.next->H1.m.get .dead q=H.m.get .dead q:=by
 unfold Jh letH;have q1:i1≠H.next:=ne_of_lt n1
 have q3:i3≠H.next:=ne_of_lt n3
 have q5:i5≠H.next:=ne_of_lt n5
 have e1:∀H2:AH,(∀q,q≠i5->q≠H.next->H2.m.get .dead q=H.m.get .dead q)->lA i1 true 2 0 H2=.agg [a0,a1]/\lA i1 true 2 2 H2=.agg [.bool s,.mag n]:=λH2 hk=>(h1.keep (hk i1 n15 q1)).fT
 have e3:∀H2:AH,(∀q,q≠i5->q≠H.next->H2.m.get .dead q=H.m.get .dead q)->lA i3 true 2 0 H2=.agg [b0,b1]/\lA i3 true 2 2 H2=.agg [.bool t,.mag m]:=λH2 hk=>(h3.keep (hk i3 n35 q3)).fT
 obtain⟨u1,u2⟩:=e1 ⟨H.next.succ,H.m⟩ (λ_ _ _=>rfl);obtain⟨u3,u4⟩:=e3 ⟨H.next.succ,H.m⟩ (λ_ _ _=>rfl);simp only[aV,show Nat.add 0 2=2 from rfl,u1,u2,u3,u4,aO,hx,hy,hz,aH];have hm:∀k,mkK (boxV (.agg [.bool false,.snil]) H.next) k=k (.arr 2 1 [.bool false,.snil] .nil) (.ptr H.next 0):=λ_=>rfl
 rw[hm,ei];obtain⟨zl,rfl,hzl,hze⟩:=hzr
 obtain⟨z0,z1,rfl⟩:∃z0 z1,zl=[z0,z1]:=by
  match zl,hzl with
  |[a,b],_=>exact⟨a,b,rfl⟩
 have hB:B2 (AH.set ⟨H.next.succ,H.m⟩ H.next (.arr 2 1 [.bool false,.snil] .nil)) H.next (.bool false) .snil:=⟨⟨_,_,aJ _ _,by unfold elem;rw[get_nil];rfl⟩⟩
 have hs67:∀q,q≠H.next->(AH.set ⟨H.next.succ,H.m⟩ H.next (.arr 2 1 [.bool false,.snil] .nil)).m.get .dead q=H.m.get .dead q:=λq hq=>af (Ne.symm hq) _
 have hn67:(AH.set ⟨H.next.succ,H.m⟩ H.next (.arr 2 1 [.bool false,.snil] .nil)).next=H.next.succ:=rfl
 generalize AH.set ⟨H.next.succ,H.m⟩ H.next (.arr 2 1 [.bool false,.snil] .nil)=H67 at *
 obtain⟨H68,w1,w2,w3,w4⟩:=hB.st (a':=z0) (b':=z1) (λH68=>chkK [H68,⟨H.next.succ,H.m⟩,⟨H.next.succ,H.m⟩,⟨H.next.succ,H.m⟩,⟨H.next.succ,H.m⟩] 4 [⟨0,1,(loadK true 2 (.ptr i1 2)),.agg [.bool s,.mag n]⟩,⟨0,1,(loadK true 2 (.ptr i3 0)),.agg [b0,b1]⟩] (KX i1 0 i3 0 i5 0 (.ptr H.next 0) H68));have ld:∀(id:Pth) (off:Nat) (H2:AH),loadK true 2 (.ptr id off) H2=lA id true 2 off H2:=λid off H2=>by rw[bj];exact(bo _ _ _ _ _).symm
 rw[w1,AE ((ld _ _ _).trans u2) ((ld _ _ _).trans u2) ((ld _ _ _).trans u3) ((ld _ _ _).trans u3) (by show(boolEq s s&&((AVal.mag n).eq1 (.mag n)&&true))=true;rw[fR,show(AVal.mag n).eq1 (.mag n)=true from Nat.beq_refl n];rfl) hb];have hk68:∀q,q≠i5->q≠H.next->H68.m.get .dead q=H.m.get .dead q:=λq _ h=>(w4 q h).trans (hs67 q h)
 obtain⟨v1,v2⟩:=e1 H68 hk68;obtain⟨v3,v4⟩:=e3 H68 hk68;unfold KX;have lz:=w2.lA;rw[ld,lz];simp only[aV,show Nat.add 0 2=2 from rfl,v2,v4,aO,hd,hr,aH];obtain⟨rl,rfl,hrl,hre⟩:=hrr;obtain⟨H78,x1,x2,x3,x4⟩:=((h5.keep (hs67 i5 q5)).keep (w4 i5 q5)).st (l':=rl) hrl (λH78=>chkK [H78,H68,H68,H68] 3 [⟨0,1,(loadK true 2 (.ptr H.next 0)),.agg [z0,z1]⟩] (resE [(loadK true 4 (.ptr i5 0) H78)] H78));rw[x1,iV ((ld _ _ _).trans lz) ((ld _ _ _).trans lz) hze];refine⟨H78,?_,x3.trans (w3.trans hn67),λq h h'=>(x4 q h).trans (hk68 q h h')⟩;have:loadK true 4 (.ptr i5 0) H78=.agg rl:=by rw[bj];exact(bo _ _ _ _ _).symm.trans x2.lA
 rw[this];rfl
theorem AG(hx:∀H,Fv [.agg [a0,a1],.agg [.bool t,.mag m]] H=.ok x H)(hy:∀H,Fv [.agg [b0,b1],.agg [.bool s,.mag n]] H=.ok y H)(hz:∀H,Gp [x,y] H=.ok z H)(hzr:okRow z 2)(hd:∀H,Fv [.agg [.bool s,.mag n],.agg [.bool t,.mag m]] H=.ok d H)(hr:∀H,FR [z,d] H=.ok r H)(hrr:okRow r 4)(hb:eqL [b0,b1] [b0,b1]=true)(hn:Nat.beq n 0=false)(hm:Nat.beq m 0=false)(hone:(FX s n&&FX t m)=false)(H:AH):∃H1,G9 (.agg [a0,a1,.bool s,.mag n]) (.agg [b0,b1,.bool t,.mag m]) H=.ok r H1/\Ext 6 H H1:=by
 unfold G9;rw[bJ,bJ,bJ];have t1:H.next.succ.toNat=H.next.toNat+1:=Pth.ab _
 have t2:H.next.succ.succ.toNat=H.next.toNat+2:=by rw[Pth.ab,t1]
 have E3:=(((Ext.refl H).add (.arr (lenN [a0,a1,.bool s,.mag n]) 1 [a0,a1,.bool s,.mag n] .nil)).add (.arr (lenN [b0,b1,.bool t,.mag m]) 1 [b0,b1,.bool t,.mag m] .nil)).add (.arr (lenN [AVal.bool false,.snil,.bool false,.snil]) 1 [AVal.bool false,.snil,.bool false,.snil] .nil);have h1:=B4.new [a0,a1,.bool s,.mag n] rfl H;generalize hH2:H.add (.arr (lenN [a0,a1,.bool s,.mag n]) 1 [a0,a1,.bool s,.mag n] .nil)=H2 at *;have e2:H2.next=H.next.succ:=by rw[<-hH2];rfl
 have h3:=B4.new [b0,b1,.bool t,.mag m] rfl H2;rw[e2]at h3⊢;have g2:∀q,q≠H.next.succ->(H2.add (.arr (lenN [b0,b1,.bool t,.mag m]) 1 [b0,b1,.bool t,.mag m] .nil)).m.get .dead q=H2.m.get .dead q:=λq hq=>aB (by rw[e2];exact Ne.symm hq) _
 generalize hH4:H2.add (.arr (lenN [b0,b1,.bool t,.mag m]) 1 [b0,b1,.bool t,.mag m] .nil)=H4 at *;have e4:H4.next=H.next.succ.succ:=by rw[<-hH4];show H2.next.succ=_;rw[e2]
 have h5:=B4.new [AVal.bool false,.snil,.bool false,.snil] rfl H4;rw[e4]at h5⊢;have g4:∀q,q≠H.next.succ.succ->(H4.add (.arr (lenN [AVal.bool false,.snil,.bool false,.snil]) 1 [AVal.bool false,.snil,.bool false,.snil] .nil)).m.get .dead q=H4.m.get .dead q:=λq hq=>aB (by rw[e4];exact Ne.symm hq) _
 generalize hH6:H4.add (.arr (lenN [AVal.bool false,.snil,.bool false,.snil]) 1 [AVal.bool false,.snil,.bool false,.snil] .nil)=H6 at *;have e6:H6.next.toNat=H.next.toNat+3:=by rw[<-hH6];show H4.next.succ.toNat=_;rw[Pth.ab,e4,t2]
 have h1:=(h1.keep (g2 _ (ne_of_lt (by omega)))).keep (g4 _ (ne_of_lt (by omega)));have h3:=h3.keep (g4 _ (ne_of_lt (by omega)));clear g2 g4 hH2 hH4 hH6 e2 e4;obtain⟨u1,u2⟩:=h1.fT;obtain⟨u3,u4⟩:=h3.fT;obtain⟨sn,i0,i1⟩:=qW s n hn H6;obtain⟨tn,j0,j1⟩:=qW t m hm H6;unfold MC;rw[aV,show Nat.add 0 2=2 from rfl,u2,aO,i1,aH,i_,i0,bf];unfold MB;rw[aV,show Nat.add 0 2=2 from rfl,u4,aO,j1,aH,i_,j0,bf];unfold MA;rw[aV,show Nat.add 0 2=2 from rfl,u2,aO];obtain⟨H7,k1,k2⟩:=qV s n H6;rw[k1,aH];have E7:=E3.trans k2;have same7:∀q,q.toNat<H6.next.toNat->H7.m.get .dead q=H6.m.get .dead q:=k2.same
 have fin:∀H8:AH,Ext 2 H6 H8->∃H1,Jh H.next 0 H.next.succ 0 H.next.succ.succ 0 H8=.ok r H1/\Ext 6 H H1:=λH8 k8=>by
  have l8:=k8.le;obtain⟨H1,f1,f2,f3⟩:=AF hx hy hz hzr hd hr hrr hb (H:=H8) (h1.keep (k8.same _ (by omega))) (h3.keep (k8.same _ (by omega))) (h5.keep (k8.same _ (by omega))) (by omega) (by omega) (by omega) (ne_of_lt (by omega)) (ne_of_lt (by omega));refine⟨H1,f1,λq hq=>?_,?_,?_⟩
  .rw[f3 q (ne_of_lt (by omega)) (ne_of_lt (by omega)),k8.same q (by omega)];exact E3.same q hq
  .rw[f2,Pth.ab];omega
  .rw[f2,Pth.ab];have:=k8.next;omega
 cases hs:FX s n with
 |false=>erw[Az];show∃H1,asB (pickF (.bool false) undefV (.bool false)) _=_/\_;rw[show pickF (.bool false) undefV (.bool false)=.bool false from rfl,lX,bf];exact fin H7 (k2.mono (by omega))
 |true=>
  rw[hs]at hone;have ht:FX t m=false:=hone;have v4:lA H.next.succ true 2 2 H7=.agg [.bool t,.mag m]:=(h3.keep (k2.same _ (by omega))).fT.2
  obtain⟨H8,p1,p2⟩:=qV t m H7;erw[qS];rw[aV];show∃H1,pv (lA H.next.succ true 2 2 H7) _=_/\_;rw[v4,aO,p1,aH,ht,lX];show∃H1,asB (pickF (.bool true) (.bool false) (.bool false)) _=_/\_;rw[show pickF (.bool true) (.bool false) (.bool false)=.bool false from rfl,lX,bf];exact fin H8 (k2.trans p2)
end
end Go.Ex.KB
namespace Go.Ex.KB
open Go Go.Ex Go.Ex.KD
theorem jg{x:AVal}{k:Bool->Nat->Bool->Bool->Nat->Bool->R}{v:AVal}{H1:AH}(h:rQ x H0e k=.ok v H1):∃s m s' m' n z n' z',x=.agg [.bool s,m,.bool s',m']/\numOf H0e m=.ok n z/\numOf H0e m'=.ok n' z'/\k s n z s' n' z'=.ok v H1:=by obtain⟨l,rfl,h1⟩:=di h;obtain⟨a,b,c,d,rfl,h2⟩:=fl h1;obtain⟨s,rfl,h3⟩:=bR h2;obtain⟨s',rfl,h4⟩:=bR h3;rw[bw]at h4;obtain⟨n,z,e,h5⟩:=dh h4;rw[bw]at h5;obtain⟨n',z',e',h6⟩:=dh h5;exact⟨s,b,s',d,n,z,n',z',rfl,e,e',h6⟩
theorem jh{m:AVal}{n:Nat}{z:Bool}(e:numOf H0e m=.ok n z)(s:Bool)(H:AH)(k:Bool->Nat->Bool->R):rJ (.agg [.bool s,m]) H k=k s n z:=by show nmF m H (λn z=>k s n z)=_;rw[bw,fO e H];rfl
theorem qX{m:AVal}{n:Nat}{z:Bool}(e:numOf H0e m=.ok n z)(hn:Nat.beq n 0=false):m=.mag n:=by
 have key:∀(id:Pth) (off len:Nat),numAt H0e id off len=.no:=λid off len=>by unfold numAt;rw[show T8.get AObj.dead id H0e.m=.dead from get_nil _ _]
 cases m with
 |mag k=>cases e;rfl
 |snil=>cases e;cases hn
 |se=>cases e;cases hn
 |sl id off len cap=>have e:(bif Nat.ble len cap then bif Nat.beq len 0 then NZ.ok 0 false else numAt H0e id off len else .no)=.ok n z:=e;rw[key]at e;cases h1:Nat.ble len cap<;>cases h2:Nat.beq len 0<;>rw[h1,h2]at e<;>cases e;cases hn
 |sg id off len ez=>have e:(bif Nat.beq ez 1 then bif Nat.beq len 0 then NZ.ok 0 false else numAt H0e id off len else .no)=.ok n z:=e;rw[key]at e;cases h1:Nat.beq ez 1<;>cases h2:Nat.beq len 0<;>rw[h1,h2]at e<;>cases e;cases hn
 |_=>cases e
theorem qY:∀p:Pth,pthEq p p=true:=λp=>aD.2 rfl
theorem lY{m:AVal}{n:Nat}{z:Bool}(e:numOf H0e m=.ok n z):m.eq1 m=true:=by
 cases m with
 |mag k=>exact Nat.beq_refl k
 |snil=>rfl
 |se=>rfl
 |sl id off len cap=>show(pthEq id id&&(Nat.beq off off&&(Nat.beq len len&&Nat.beq cap cap)))=true;rw[qY,Nat.beq_refl,Nat.beq_refl,Nat.beq_refl];rfl
 |sg id off len ez=>show(pthEq id id&&(Nat.beq off off&&(Nat.beq len len&&Nat.beq ez ez)))=true;rw[qY,Nat.beq_refl,Nat.beq_refl,Nat.beq_refl];rfl
 |_=>cases e
theorem ji{m m':AVal}{n n':Nat}{z z':Bool}(e:numOf H0e m=.ok n z)(e':numOf H0e m'=.ok n' z')(s s':Bool)(H:AH)(k:Bool->Nat->Bool->Bool->Nat->Bool->R):rQ (.agg [.bool s,m,.bool s',m']) H k=k s n z s' n' z':=by show nmF m H (λn z=>nmF m' H λn' z'=>k s n z s' n' z')=_;rw[bw,fO e H];show nmF m' H (λn' z'=>k s n z s' n' z')=_;rw[bw,fO e' H];rfl
def FC(n:Nat)(v:Bool):AVal:=bif Nat.beq n 0 then bif v then .snil else .se else .mag n
theorem AI{n:Nat}(h:Nat.blt n 18446744073709551616=true)(v:Bool)(H:AH)(k:AVal->AH->R):pkF n v H k=k (FC n v) H:=by unfold pkF FC;rw[h];cases Nat.beq n 0<;>cases v<;>rfl
theorem jj(n:Nat)(v:Bool):∃z,numOf H0e (FC n v)=.ok n z:=by
 unfold FC;cases h:Nat.beq n 0 with
 |true=>have:=Nat.eq_of_beq_eq_true h;subst this;cases v<;>exact⟨_,rfl⟩
 |false=>exact⟨_,rfl⟩
theorem AJ(n:Nat)(v:Bool):(FC n v).eq1 (FC n v)=true:=by unfold FC;cases Nat.beq n 0<;>cases v<;>first|rfl|exact Nat.beq_refl n
theorem AK{n:Nat}(h:Nat.blt n 18446744073709551616=true)(r v:Bool)(H:AH):gvJ H r n v=.ok (.agg [.bool r,FC n v]) H:=by unfold gvJ;rw[AI h]
theorem qZ{F:F2}{m m':AVal}{a b:Nat}{z u:Bool}(e:numOf H0e m=.ok a z)(e':numOf H0e m'=.ok b u){s t r v:Bool}{n:Nat}(hF:∀k,F s a z t b u k=k r n v)(hn:Nat.blt n 18446744073709551616=true)(H:AH):nJJ F (.agg [.bool s,m]) (.agg [.bool t,m']) H=.ok (.agg [.bool r,FC n v]) H:=by unfold nJJ;rw[jh e,jh e',hF,AK hn]
theorem jk{F:KJ->R}(hF:Cps1 F){G:Bool->Nat->Bool->R}{v:AVal}{H:AH}(h:F (λr n w=>Fe (Nat.blt n 18446744073709551616) (G r n w))=.ok v H):∃r n w,(∀k,F k=k r n w)/\Nat.blt n 18446744073709551616=true/\G r n w=.ok v H:=by
 rcases hF with hc|⟨r,n,w,hc⟩
 .rw[hc]at h;cases h
 .rw[hc]at h;obtain⟨h1,h2⟩:=aA h;exact⟨r,n,w,hc,h1,h2⟩
def Ga(x y:AVal)(H:AH):R:=rQ x H0e λs a z s' a' z'=>rQ y H0e λt b u t' b' u'=>
 Bool.rec (motive:=λ_=>R) (Bool.rec (motive:=λ_=>R) (Bool.rec (motive:=λ_=>R)
  (mulK s a z t' b' u' λr1 n1 v1=>Fe (Nat.blt n1 18446744073709551616) <| mulK t b u s' a' z' λr2 n2 v2=>Fe (Nat.blt n2 18446744073709551616) <| addK r1 n1 v1 r2 n2 v2 λr3 n3 v3=>Fe (Nat.blt n3 18446744073709551616) <|
   mulK s' a' z' t' b' u' λr4 n4 v4=>Fe (Nat.blt n4 18446744073709551616) <| ovrK r3 n3 v3 r4 n4 v4 λr n v r' n' v'=>gvQ ⟨keyC H 6,H.m⟩ r n v r' n' v')
  .no (and (FX s' a') (FX t' b'))) .no (Nat.beq b' 0)) .no (Nat.beq a' 0)
theorem jl{x y v:AVal}{H H':AH}(h:Ga x y H=.ok v H'):okRow v 4/\H'=⟨keyC H 6,H.m⟩/\∀H2,nQQ qaddK x y H2=.no/\∃H1,G9 x y H2=.ok v H1/\Ext 6 H2 H1:=by
 unfold Ga at h;obtain⟨s,mx,s',mx',a,z,a',z',rfl,ex,ex',h0⟩:=jg h;clear h;obtain⟨t,my,t',my',b,u,b',u',rfl,ey,ey',h⟩:=jg h0;clear h0;cases ha:Nat.beq a' 0 with
 |true=>rw[ha]at h;cases h
 |false=>
  rw[ha]at h;cases hb:Nat.beq b' 0 with
  |true=>rw[hb]at h;cases h
  |false=>
   rw[hb]at h;cases ho:(FX s' a'&&FX t' b')with
   |true=>rw[ho]at h;cases h
   |false=>
    rw[ho]at h;cases qX ex' ha;cases qX ey' hb;obtain⟨r1,n1,v1,f1,g1,h1⟩:=jk (fP s a z t' b' u') h;clear h;obtain⟨r2,n2,v2,f2,g2,h2⟩:=jk (fP t b u s' a' z') h1;clear h1;obtain⟨r3,n3,v3,f3,g3,h3⟩:=jk (qQ r1 n1 r2 n2) h2;clear h2;obtain⟨r4,n4,v4,f4,g4,h⟩:=jk (fP s' a' z' t' b' u') h3;clear h3;obtain⟨z1,e1⟩:=jj n1 v1;obtain⟨z2,e2⟩:=jj n2 v2;obtain⟨z3,e3⟩:=jj n3 v3;obtain⟨z4,e4⟩:=jj n4 v4;rcases eI r3 n3 v3 r4 n4 v4 with hc|⟨r,n,w,r',n',w',hc⟩
    .rw[hc]at h;cases h
    .rw[hc]at h;obtain⟨k1,k2⟩:=jd h;have hH:H'=⟨keyC H 6,H.m⟩:=by have:=k2 ⟨keyC H 6,H.m⟩;rw[h]at this;have h:=h;unfold gvQ pkF at h;cases q1:Nat.beq n 0<;>cases q2:Nat.beq n' 0<;>cases w<;>cases w'<;>cases q3:Nat.blt n 18446744073709551616<;>cases q4:Nat.blt n' 18446744073709551616<;>rw[q1,q2,q3,q4]at h<;>cases h<;>rfl
     refine⟨k1,hH,λH2=>?_⟩;have mu:∀{m m':AVal} {a b:Nat} {z u:Bool},numOf H0e m=.ok a z->numOf H0e m'=.ok b u->∀{s t r v:Bool} {n:Nat},(∀k,mulK s a z t b u k=k r n v)->Nat.blt n 18446744073709551616=true->∀H,Fv [.agg [.bool s,m],.agg [.bool t,m']] H=.ok (.agg [.bool r,FC n v]) H:=λe e' _ _ _ _ _ hF hn H=>by unfold Fv;exact bM (qZ e e' hF hn H)
     have ebb:eqL [.bool t,my] [.bool t,my]=true:=by
      have hy:∀{m:AVal} {n:Nat} {z:Bool},numOf H0e m=.ok n z->m.eq1 m=true:=λ{m n z} e=>lY e
      show(boolEq t t&&(my.eq1 my&&true))=true;rw[fR,hy ey];rfl
     refine⟨?_,?_⟩
     .unfold nQQ;rw[ji ex ex',ji ey ey'];unfold qaddK oneK;rw[ha,hb];unfold FX at ho;cases q1:Nat.beq a' 1<;>cases q2:Nat.beq b' 1<;>rw[q1,q2]at ho<;>cases s'<;>cases t'<;>first|rfl|cases ho
     exact AG (mu ex ey' f1 g1) (mu ey ex' f2 g2) (λH=>by unfold Gp;exact bM (qZ (F:=addK) e1 e2 f3 g3 H)) ⟨_,rfl,rfl,by show(boolEq r3 r3&&((FC n3 v3).eq1 (FC n3 v3)&&true))=true;rw[fR,AJ];rfl⟩
      (mu ex' ey' f4 g4) (λH=>by
       unfold FR;refine bM (show nJJQ ovrK (.agg [.bool r3,FC n3 v3]) (.agg [.bool r4,FC n4 v4]) H=.ok v H from ?_);unfold nJJQ;rw[jh e3,jh e4]
       exact(hc _).trans (k2 H)) k1 ebb ha hb ho H2
theorem q9{P:Program}{ω:Nat->Value}(hω:∀i,(ω i).oneCell'=true)(hm:P.follows .mixedOrders=true)(hT:TabOk P ω FN):OrcOk P ω 123 (natK (ar2 Ga)):=by refine iA hω hm hT (show Adq FN (key 123) Fy from iY) ?_;intro args H v H' hw h;obtain⟨x,l,rfl,h1⟩:=aQ (show consA args (λa l=>consA l λb r=>nilA r (Ga a b H))=.ok v H' from h);obtain⟨y,l,rfl,h2⟩:=aQ h1;obtain⟨rfl,h3⟩:=cg h2;obtain⟨_,rfl,h4⟩:=jl h3;obtain⟨h5,H1,h6,h7⟩:=h4 H;refine⟨v,H1,6,?_,h7,.none v⟩;unfold Fy orK;rw[show ar2 (nQQ qaddK) [x,y] H=.no from h5];exact h6
end Go.Ex.KB
namespace Go.Ex.KB
open Go Go.Ex Go.Ex.KD
def Iw(x:AVal):Prop:=∃s m s' m' n z n' z',x=.agg [.bool s,m,.bool s',m']/\numOf H0e m=.ok n z/\numOf H0e m'=.ok n' z'
theorem AL{F:F2Q}{x v:AVal}{H1:AH}(h:nQ F x H0e=.ok v H1):Iw x:=by obtain⟨s,m,s',m',n,z,n',z',e,e1,e2,_⟩:=jg h;exact⟨s,m,s',m',n,z,n',z',e,e1,e2⟩
theorem AM{x y v:AVal}{H H1:AH}(h:Ga x y H=.ok v H1):Iw x:=by obtain⟨s,m,s',m',n,z,n',z',e,e1,e2,_⟩:=jg h;exact⟨s,m,s',m',n,z,n',z',e,e1,e2⟩
theorem AN{r:Bool}{n:Nat}{v r':Bool}{n':Nat}{v':Bool}(h:∀x H1,gvQ H0e r n v r' n' v'≠.ok x H1)(H:AH):gvQ H r n v r' n' v'=.no:=by unfold gvQ pkF at h⊢;cases q1:Nat.beq n 0<;>cases q2:Nat.beq n' 0<;>cases v<;>cases v'<;>cases q3:Nat.blt n 18446744073709551616<;>cases q4:Nat.blt n' 18446744073709551616<;>rw[q1,q2,q3,q4]at h<;>first|rfl|exact absurd rfl (h _ _)
theorem AO{F:F4Q}(hF:∀s a z s' a' z' t b u t' b' u',CpsQ (F s a z s' a' z' t b u t' b' u')){x y:AVal}(hx:Iw x)(hy:Iw y)(h:valR (nQQ F x y H0e)=none)(H:AH):nQQ F x y H=.no:=by
 obtain⟨s,m,s',m',a,z,a',z',rfl,e1,e2⟩:=hx;obtain⟨t,k,t',k',b,u,b',u',rfl,e3,e4⟩:=hy;have key:∀H,nQQ F (.agg [.bool s,m,.bool s',m']) (.agg [.bool t,k,.bool t',k']) H=F s a z s' a' z' t b u t' b' u' λr n v r' n' v'=>gvQ H r n v r' n' v':=λH=>by unfold nQQ;rw[ji e1 e2,ji e3 e4]
 rw[key]at h⊢;rcases hF s a z s' a' z' t b u t' b' u' with hc|⟨r,n,w,r',n',w',hc⟩
 .rw[hc]
 .rw[hc]at h⊢;refine AN (λx H1 e=>?_) H;rw[e]at h;cases h
def Lf{α:Type}(a b:Option α):Option α:=match a with|some x=>some x|none=>b
theorem q_{α:Type}{a b:Option α}{x:α}(h:Lf a b=some x):a=some x\/a=none/\b=some x:=by
 cases a with
 |some y=>exact .inl h
 |none=>exact .inr ⟨rfl,h⟩
def Lg(x y:AVal):Option AVal:=Lf (addv x y) (valR (Ga x y H0e))
theorem AR{x y v:AVal}(h:Lg x y=some v):okRow v 4/\∀H,∃H1,Fy [x,y] H=.ok v H1/\Ext 6 H H1:=by
 rcases q_ h with h|⟨h0,h⟩
 .obtain⟨H1,h1⟩:=bK h;obtain⟨h2,h3⟩:=fQ jc h1;exact⟨h2,λH=>⟨H,by unfold Fy;exact bM (h3 H),(Ext.refl H).mono (by omega)⟩⟩
 .obtain⟨H1,h1⟩:=bK h;obtain⟨h2,_,h4⟩:=jl h1;refine⟨h2,λH=>?_⟩;obtain⟨h5,H2,h6,h7⟩:=h4 H;refine⟨H2,?_,h7⟩;unfold Fy orK;rw[show ar2 (nQQ qaddK) [x,y] H=.no from h5];exact h6
def Iy(x y:AVal):Option AVal:=Lf (valR (nQQ qsubK x y H0e)) ((negv y).bind λw=>valR (Ga x w H0e))
theorem re(s:Bool)(a:Nat)(z s':Bool)(a':Nat)(z' t:Bool)(b:Nat)(u t':Bool)(b':Nat)(u':Bool):CpsQ (qsubK s a z s' a' z' t b u t' b' u'):=by
 unfold qsubK;rcases lU t b u t' b' u' with hc|⟨r,n,w,r',n',w',hc⟩
 .exact .inl λk=>hc _
 .rcases jc s a z s' a' z' r n w r' n' w' with hd|⟨r1,n1,w1,r2,n2,w2,hd⟩
  .exact .inl λk=>(hc _).trans (hd _)
  .exact .inr ⟨r1,n1,w1,r2,n2,w2,λk=>(hc _).trans (hd _)⟩
theorem AS{x y w v:AVal}(hw:negv y=some w)(hv:Lg x w=some v)(hx:∃l,x=.agg l/\l.length=4/\eqL l l=true)(hy:∃l,y=.agg l/\l.length=4)(H:AH):∃H1,Ij x y H=.ok v H1/\Ext 9 H H1:=by
 obtain⟨xl,rfl,hxl,hxe⟩:=hx;obtain⟨yl,rfl,hyl⟩:=hy
 obtain⟨x0,x1,x2,x3,rfl⟩:∃a b c e,xl=[a,b,c,e]:=by
  match xl,hxl with
  |[a,b,c,e],_=>exact⟨a,b,c,e,rfl⟩
 obtain⟨y0,y1,y2,y3,rfl⟩:∃a b c e,yl=[a,b,c,e]:=by
  match yl,hyl with
  |[a,b,c,e],_=>exact⟨a,b,c,e,rfl⟩
 unfold Ij;rw[bJ,bJ,bJ];have t1:H.next.succ.toNat=H.next.toNat+1:=Pth.ab _
 have t2:H.next.succ.succ.toNat=H.next.toNat+2:=by rw[Pth.ab,t1]
 have E3:=(((Ext.refl H).add (.arr (lenN [x0,x1,x2,x3]) 1 [x0,x1,x2,x3] .nil)).add (.arr (lenN [y0,y1,y2,y3]) 1 [y0,y1,y2,y3] .nil)).add (.arr (lenN [AVal.bool false,.snil,.bool false,.snil]) 1 [AVal.bool false,.snil,.bool false,.snil] .nil);have h1:=B4.new [x0,x1,x2,x3] rfl H;generalize hH2:H.add (.arr (lenN [x0,x1,x2,x3]) 1 [x0,x1,x2,x3] .nil)=H2 at *;have e2:H2.next=H.next.succ:=by rw[<-hH2];rfl
 have h3:=B4.new [y0,y1,y2,y3] rfl H2;rw[e2]at h3⊢;have g2:∀q,q≠H.next.succ->(H2.add (.arr (lenN [y0,y1,y2,y3]) 1 [y0,y1,y2,y3] .nil)).m.get .dead q=H2.m.get .dead q:=λq hq=>aB (by rw[e2];exact Ne.symm hq) _
 generalize hH4:H2.add (.arr (lenN [y0,y1,y2,y3]) 1 [y0,y1,y2,y3] .nil)=H4 at *;have e4:H4.next=H.next.succ.succ:=by rw[<-hH4];show H2.next.succ=_;rw[e2]
 have h5:=B4.new [AVal.bool false,.snil,.bool false,.snil] rfl H4;rw[e4]at h5⊢;have g4:∀q,q≠H.next.succ.succ->(H4.add (.arr (lenN [AVal.bool false,.snil,.bool false,.snil]) 1 [AVal.bool false,.snil,.bool false,.snil] .nil)).m.get .dead q=H4.m.get .dead q:=λq hq=>aB (by rw[e4];exact Ne.symm hq) _
 generalize hH6:H4.add (.arr (lenN [AVal.bool false,.snil,.bool false,.snil]) 1 [AVal.bool false,.snil,.bool false,.snil] .nil)=H6 at *;have e6:H6.next.toNat=H.next.toNat+3:=by rw[<-hH6];show H4.next.succ.toNat=_;rw[Pth.ab,e4,t2]
 have h1:=(h1.keep (g2 _ (ne_of_lt (by omega)))).keep (g4 _ (ne_of_lt (by omega)));have h3:=h3.keep (g4 _ (ne_of_lt (by omega)));clear g2 g4 hH2 hH4 hH6 e2 e4;unfold MD;obtain⟨H2',hn⟩:=bK hw;obtain⟨_,hn⟩:=lV lU hn;obtain⟨hr,ha⟩:=AR hv;obtain⟨H12,ha,hE⟩:=ha H6;rw[h1.lA,aO,h3.lA,aO,show FT [.agg [y0,y1,y2,y3]] H6=.ok w H6 from by unfold FT;exact bM (hn H6),aH,ha,aH];obtain⟨rl,rfl,hrl,hre⟩:=hr;have ld:∀(id:Pth) (H2:AH),loadK true 4 (.ptr id 0) H2=lA id true 4 0 H2:=λid H2=>by rw[bj];exact(bo _ _ _ _ _).symm
 have l12:=hE.le;obtain⟨H13,x1',x2',x3',x4'⟩:=(h5.keep (hE.same _ (by omega))).st (l':=rl) hrl (λH13=>chkK [H13,H12,H6,H6] 3 [⟨0,1,(loadK true 4 (.ptr H.next 0)),.agg [x0,x1,x2,x3]⟩] (resE [(loadK true 4 (.ptr H.next.succ.succ 0) H13)] H13));rw[x1',iV ((ld _ _).trans h1.lA) ((ld _ _).trans h1.lA) hxe,ld,x2'.lA];refine⟨H13,rfl,λq hq=>?_,?_,?_⟩
 .rw[x4' q (ne_of_lt (by omega)),hE.same q (by omega)];exact E3.same q hq
 .rw[x3'];omega
 .rw[x3'];have:=hE.next;omega
theorem Iw.row{x:AVal}(h:Iw x):∃l,x=.agg l/\l.length=4/\eqL l l=true:=by obtain⟨s,m,s',m',n,z,n',z',rfl,e1,e2⟩:=h;refine⟨_,rfl,rfl,?_⟩;show(boolEq s s&&(m.eq1 m&&(boolEq s' s'&&(m'.eq1 m'&&true))))=true;rw[fR,fR,lY e1,lY e2];rfl
theorem rh{x y v:AVal}(h:Iy x y=some v):okRow v 4/\∀H,∃H1,GF [x,y] H=.ok v H1/\Ext 9 H H1:=by
 rcases q_ h with h|⟨h0,h⟩
 .obtain⟨H1,h1⟩:=bK h;obtain⟨h2,h3⟩:=fQ re h1;exact⟨h2,λH=>⟨H,by unfold GF;exact bM (h3 H),(Ext.refl H).mono (by omega)⟩⟩
 .simp only[Option.bind_eq_some_iff]at h;obtain⟨w,hw,h⟩:=h;obtain⟨H1,h1⟩:=bK h;obtain⟨H2,h2⟩:=bK hw;have qx:=AM h1;have qy:=AL h2;obtain⟨k1,_,_⟩:=jl h1;refine⟨k1,λH=>?_⟩
  have hv:Lg x w=some v:=by
   unfold Lg;cases ha:addv x w with
   |none=>rw[show Lf none (valR (Ga x w H0e))=valR (Ga x w H0e)from rfl];exact h
   |some u=>obtain⟨H3,h3⟩:=bK ha;obtain⟨_,h4⟩:=fQ jc h3;obtain⟨_,_,h5⟩:=jl h1;have h6:=h4 H;rw[(h5 H).1]at h6;cases h6
  obtain⟨yl,e1,e2,_⟩:=qy.row;obtain⟨H3,h3,h4⟩:=AS hw hv qx.row ⟨yl,e1,e2⟩ H;refine⟨H3,?_,h4⟩;unfold GF orK;rw[show ar2 (nQQ qsubK) [x,y] H=.no from AO re qx qy h0 H];exact h3
end Go.Ex.KB
namespace Go.Ex
open Go
inductive Gr(n0:Nat)(esz:Nat)(H:AH):AVal->List (List AVal)->Prop where
 |nil:Gr n0 esz H .snil []
 |sg (k:Pth) (rows:List (List AVal)) (hn:Nw H k esz rows) (h0:n0<=k.toNat) (h1:k.toNat<H.next.toNat) (hp:rows≠[]):Gr n0 esz H (.sg k 0 rows.length esz) rows
theorem Gr.keep{n0 esz:Nat}{H H1:AH}{v:AVal}{rows:List (List AVal)}(h:Gr n0 esz H v rows)(hn:H.next.toNat<=H1.next.toNat)(hs:∀q,n0<=q.toNat->q.toNat<H.next.toNat->H1.m.get .dead q=H.m.get .dead q):Gr n0 esz H1 v rows:=by
 cases h with
 |nil=>exact .nil
 |sg k rows a b c d=>exact .sg k rows (a.keep (hs k b c)) b (by omega) d
theorem AT(id:Pth)(m:T8 AObj):(getHS id).run m=m.get .dead id:=by
 first
  |exact cG id m
  |exact getHS_run id m
theorem ri{n bytes:Nat}(h1:n<1000000)(h2:bytes<1000):small n bytes=true:=by unfold small;rw[Bool.and_eq_true,Bool.and_eq_true];have:n*bytes<1099511627776:=Nat.lt_of_lt_of_le (Nat.mul_lt_mul'' h1 h2) (by omega);exact⟨Nat.ble_eq_true_of_le this,Nat.ble_eq_true_of_le (by omega),Nat.ble_eq_true_of_le (by omega)⟩
theorem AU{n0 esz bytes:Nat}{H:AH}{v x:AVal}{rows:List (List AVal)}{row:List AVal}(h:Gr n0 esz H v rows)(hn0:n0<=H.next.toNat)(he:elsOf H esz x=some [row])(hr:row.length=esz)(hp:0<esz)(hb:bytes<1000)(hl:rows.length<100000)(k:AVal->AH->R):∃v' H',apK esz bytes v x H k=k v' H'/\Gr n0 esz H' v' (rows++[row])/\H'.next=H.next.succ/\∀q,q.toNat<n0->H'.m.get .dead q=H.m.get .dead q:=by
 have hz:Nat.beq esz 0=false:=by
  cases hz:Nat.beq esz 0 with
  |false=>rfl
  |true=>have:=Nat.eq_of_beq_eq_true hz;omega
 have key:apK esz bytes v x H k=apN esz bytes v 1 [row] H k:=by unfold apK;rw[he];show Bool.rec (motive:=λ_=>R) (Bool.rec (motive:=λ_=>R) (apN esz bytes v 1 [row] H k) .no (Nat.beq esz 0)) (R.rec (motive:=λ_=>R) .no (λv H=>k v H) (appendV H esz bytes v [])) (Nat.beq 1 0)=_;rw[hz];rfl
 rw[key];have hne:row≠[]:=by intro e;rw[e]at hr;simp at hr;omega
 cases h with
 |nil=>
  refine⟨.sg H.next 0 1 esz,H.add (.arr esz 1 [] (putEls 0 [row] .nil)),?_,?_,rfl,λq hq=>aB (λe=>by rw[<-e]at hq;omega) _⟩
  .show smallK 1 bytes (putElsC 0 [row] .nil λe=>newHK H (.arr esz 1 [] e) λi H=>k (.sg i 0 1 esz) H) .no=_;rw[fg,ri (by omega) hb,dg,aX];rfl
  .refine .sg H.next [row] ⟨⟨_,_,bZ _,λj hj=>?_⟩,hp,λr hr'=>?_⟩ hn0 (by rw[dO,Pth.ab];omega) (by simp)
   .exact lW hp (by intro r h;rw[List.mem_singleton.1 h];exact hr) hj
   .rw[List.mem_singleton.1 hr'];exact hr
 |sg id rows hn h0 h1 hq=>
  obtain⟨d,els,ho,hel⟩:=hn.is;refine⟨.sg H.next 0 (rows.length+1) esz,((H.set id (.fwd H.next esz rows.length d els)).add (.arr esz (rows.length+1) d (putEls rows.length [row] els))),?_,?_,rfl,λq hq=>?_⟩
  .show apSg ((getHS id).run H.m) esz bytes id 0 rows.length esz 1 [row] H k=_;rw[AT,ho]
   show Bool.rec (motive:=λ_=>R) .no (Bool.rec (motive:=λ_=>R) .no (Bool.rec (motive:=λ_=>R) .no (Bool.rec (motive:=λ_=>R) .no
    (smallK (Nat.add rows.length 1) bytes (setHKc H id (.fwd H.next esz rows.length d els) λH=>grownC esz d els 0 rows.length 1 [row] λo=>newHK H o λi H=>k (.sg i 0 (Nat.add rows.length 1) esz) H) .no)
    (Nat.ble (Nat.add (Nat.div 0 esz) rows.length) rows.length)) (Nat.beq (Nat.mod 0 esz) 0)) (Nat.beq esz esz)) (Nat.beq esz esz)=_
   rw[Nat.beq_refl,show Nat.mod 0 esz=0 from Nat.zero_mod esz,show Nat.div 0 esz=0 from Nat.zero_div esz,Nat.beq_refl,show Nat.ble (Nat.add 0 rows.length) rows.length=true from Nat.ble_eq_true_of_le (by show 0+rows.length<=_;omega),fg,show small (Nat.add rows.length 1) bytes=true from ri (by show rows.length+1<_;omega) hb,dD];exact(ku esz d els 0 rows.length [row] (λo=>newHK (H.set id (.fwd H.next esz rows.length d els)) o λi H=>k (.sg i 0 (Nat.add rows.length 1) esz) H)).trans (aX _ _ _)
  .have hc:=Gr.sg (n0:=n0) (esz:=esz) (H:=((H.set id (.fwd H.next esz rows.length d els)).add (.arr esz (rows.length+1) d (putEls rows.length [row] els)))) H.next (rows++[row]) ?_ hn0 (by rw[dO];show H.next.toNat<H.next.succ.toNat;rw[Pth.ab];omega) (by simp)
   .rw[List.length_append]at hc;exact hc
   .refine⟨⟨d,putEls rows.length [row] els,?_,λj hj=>?_⟩,hp,λr hr'=>?_⟩
    .rw[List.length_append];exact bZ (H:=H.set id (.fwd H.next esz rows.length d els)) _
    .rw[List.length_append]at hj;have hj:j<rows.length+1:=hj;rw[c_];by_cases e:j<rows.length
     .rw[if_neg (by omega),List.getElem_append_left e];exact hel j e
     .have:j=rows.length:=by omega
      subst this;rw[if_pos (Nat.le_refl _),Nat.sub_self,List.getElem_append_right (Nat.le_refl _)];show orElse d row=_;rw[bE hne];simp
    .rcases List.mem_append.1 hr' with h|h
     .exact hn.each r h
     .rw[List.mem_singleton.1 h];exact hr
  .rw[aB (λe=>by rw[<-e]at hq;have:(H.set id (.fwd H.next esz rows.length d els)).next.toNat=H.next.toNat:=rfl;omega),af (λe=>by rw[<-e]at hq;omega)]
end Go.Ex
namespace Go.Ex
open Go
def Fj(esz:Nat)(v:AVal):Bool:=match v with
 |.sl _ _ len cap=>Nat.ble len cap
 |.sg _ _ _ ez=>Nat.beq esz ez
 |_=>true
theorem jm{H:AH}{esz:Nat}{id:Pth}{off len:Nat}{rows:List (List AVal)}(hp:0<esz)(he:(bif Nat.beq len 0 then some []else sliceElems H esz id off len)=some rows):len=rows.length:=by
 cases hz:Nat.beq len 0 with
 |true=>rw[hz]at he;cases he;exact Nat.eq_of_beq_eq_true hz
 |false=>rw[hz]at he;obtain⟨m,d,els,ho,hmod,hfit,hr⟩:=eE (show sliceElems H esz id off len=some rows from he) hp;rw[hr,bu]
theorem Sl.tail{H:AH}{esz:Nat}{v:AVal}{r:List AVal}{rows:List (List AVal)}(h:Sl H esz v (r::rows))(hc:Fj esz v=true):∃v',(∀k:AVal->R,pv (slcO esz v (some (.int .i64 (.ofNat 1))) none) k=k v')/\Sl H esz v' rows/\Fj esz v'=true:=by
 have hp:=h.pos
 have gen:∀(id:Pth) (off len:Nat),(bif Nat.beq len 0 then some []else sliceElems H esz id off len)=some (r::rows)->(bif Nat.beq (len-1) 0 then some []else sliceElems H esz id (off+esz) (len-1))=some rows/\len=rows.length+1:=λid off len he=>by
  have hl:=jm hp he;rw[List.length_cons]at hl;refine⟨?_,hl⟩;have hz:Nat.beq len 0=false:=by rw[hl];rfl
  rw[hz]at he;obtain⟨m,d,els,ho,hmod,hfit,hr⟩:=eE (show sliceElems H esz id off len=some (r::rows)from he) hp;have hdv:(off+esz)/esz=off/esz+1:=Nat.add_div_right off hp;have hmd:(off+esz)%esz=0:=by rw[Nat.add_mod_right];exact hmod
  have hrr:rows=elemsFrom d els (off/esz+1) (len-1):=by rw[hl]at hr⊢;have:r::rows=elem (off/esz) d els::elemsFrom d els (off/esz+1) rows.length:=hr;rw[Nat.add_sub_cancel];exact(List.cons.inj this).2
  cases hz2:Nat.beq (len-1) 0 with
  |true=>have:=Nat.eq_of_beq_eq_true hz2;have:rows=[]:=List.eq_nil_of_length_eq_zero (by omega);rw[this];rfl
  |false=>show sliceElems H esz id (off+esz) (len-1)=some rows;unfold sliceElems;rw[ho];show(bif Nat.beq esz esz&&(Nat.beq (Nat.mod (off+esz) esz) 0&&Nat.ble (Nat.add (Nat.div (off+esz) esz) (len-1)) m)then some (elemsFrom d els (Nat.div (off+esz) esz) (len-1))else none)=some rows;rw[show Nat.mod (off+esz) esz=0 from hmd,show Nat.div (off+esz) esz=off/esz+1 from hdv,Nat.beq_refl,show Nat.ble (Nat.add (off/esz+1) (len-1)) m=true from Nat.ble_eq_true_of_le (by show off/esz+1+(len-1)<=m;omega),hrr];rfl
 have he:=h.els;cases v with
 |sl id off len cap=>
  obtain⟨g1,g2⟩:=gen id off len he;have hlc:len<=cap:=Nat.le_of_ble_eq_true hc;refine⟨.sl id (bif Nat.beq cap 1 then off else off+esz) (len-1) (cap-1),λk=>?_,⟨?_,hp,λq hq=>h.each q (List.mem_cons_of_mem _ hq),λid' off' l c hl hv=>?_⟩,Nat.ble_eq_true_of_le (by omega)⟩
  .have:slcO esz (.sl id off len cap) (some (.int .i64 (.ofNat 1))) none=.sl id (bif Nat.beq cap 1 then off else off+esz) (len-1) (cap-1):=by
    show(bif Nat.ble 1 len&&Nat.ble len cap then AVal.sl id (bif Nat.beq cap 1 then off else Nat.add off (Nat.mul 1 esz)) (Nat.sub len 1) (Nat.sub cap 1)else .bad)=_;rw[show Nat.ble 1 len=true from Nat.ble_eq_true_of_le (by omega),show Nat.ble len cap=true from hc,show Nat.mul 1 esz=esz from Nat.one_mul esz];rfl
   rw[this];rfl
  .show(bif Nat.beq (len-1) 0 then some []else sliceElems H esz id (bif Nat.beq cap 1 then off else off+esz) (len-1))=some rows;cases hb:Nat.beq cap 1 with
   |false=>exact g1
   |true=>have:=Nat.eq_of_beq_eq_true hb;have:rows=[]:=List.eq_nil_of_length_eq_zero (by omega);rw[this,show len-1=0 by omega];rfl
  .rcases hv with hv|hv<;>cases hv;exact h.old id off len cap (by omega) (.inl rfl)
 |sg id off len ez=>
  obtain⟨g1,g2⟩:=gen id off len he;have:slcO esz (.sg id off len ez) (some (.int .i64 (.ofNat 1))) none=(bif Nat.blt 1 len then .sg id (off+esz) (len-1) ez else .se):=by show(bif Nat.beq esz ez&&(Nat.ble 1 len&&Nat.ble len len)then bif Nat.blt 1 len then AVal.sg id (Nat.add off (Nat.mul 1 esz)) (Nat.sub len 1) ez else bif Nat.beq 1 0 then .sg id off 0 ez else .se else .bad)=_;rw[show Nat.beq esz ez=true from hc,show Nat.ble 1 len=true from Nat.ble_eq_true_of_le (by omega),show Nat.ble len len=true from Nat.ble_eq_true_of_le (Nat.le_refl _),show Nat.mul 1 esz=esz from Nat.one_mul esz];rfl
  rw[this];cases hb:Nat.blt 1 len with
  |true=>refine⟨.sg id (off+esz) (len-1) ez,λk=>rfl,⟨g1,hp,λq hq=>h.each q (List.mem_cons_of_mem _ hq),λid' off' l c hl hv=>?_⟩,hc⟩;rcases hv with hv|hv<;>cases hv;exact h.old id off len ez (by omega) (.inr rfl)
  |false=>
   have hn:¬1<len:=λe=>by rw[show Nat.blt 1 len=true from Nat.ble_eq_true_of_le e]at hb;cases hb
   have:rows=[]:=List.eq_nil_of_length_eq_zero (by omega);rw[this];refine⟨.se,λk=>rfl,⟨rfl,hp,(λq hq=>by cases hq),λid' off' l c hl hv=>by rcases hv with hv|hv<;>cases hv⟩,rfl⟩
 |snil=>cases he
 |se=>cases he
 |_=>cases he
theorem Sl.Fp{H:AH}{v x c0 c1 c2 c3:AVal}{rows:List (List AVal)}(h:Sl H 5 v ([x,c0,c1,c2,c3]::rows)):∃id off,iaI 5 v (.ofNat 0)=.ptr id off/\id.toNat<H.next.toNat/\∀H':AH,H'.m.get .dead id=H.m.get .dead id->lA id true 5 off H'=.agg [x,c0,c1,c2,c3]/\l1 id off H'=x/\lA id true 4 (off+1) H'=.agg [c0,c1,c2,c3]:=by
 have gen:∀(id:Pth) (off len:Nat),(bif Nat.beq len 0 then some []else sliceElems H 5 id off len)=some ([x,c0,c1,c2,c3]::rows)->∀H':AH,H'.m.get .dead id=H.m.get .dead id->
  lA id true 5 (Nat.add off (Nat.mul 0 5)) H'=.agg [x,c0,c1,c2,c3]/\l1 id (Nat.add off (Nat.mul 0 5)) H'=x/\lA id true 4 (Nat.add off (Nat.mul 0 5)+1) H'=.agg [c0,c1,c2,c3]:=λid off len he H' hs=>by
  have hl:=jm (by omega) he;rw[List.length_cons]at hl;have hz:Nat.beq len 0=false:=by rw[hl];rfl
  rw[hz]at he;obtain⟨m,d,els,ho,hmod,hfit,hr⟩:=eE (show sliceElems H 5 id off len=some _ from he) (by omega);have hrow:elem (off/5) d els=[x,c0,c1,c2,c3]:=by rw[hl]at hr;have:[x,c0,c1,c2,c3]::rows=elem (off/5) d els::elemsFrom d els (off/5+1) rows.length:=hr;exact(List.cons.inj this).1.symm
  have e0:Nat.add off (Nat.mul 0 5)=off:=rfl;rw[e0,bo,bo,show l1 id off H'=loadAt H' false 1 id off from dE H' id off];unfold loadAt;rw[hs,ho];have hb:Nat.blt (off/5) m=true:=Nat.ble_eq_true_of_le (by omega);have d1:(off+1)/5=off/5:=by omega
  have m1:(off+1)%5=1:=by omega
  refine⟨?_,?_,?_⟩
  .show cellsAt true 5 5 m d els off=_;unfold cellsAt;rw[show Nat.div off 5=off/5 from rfl,show Nat.mod off 5=0 from hmod,hb,hrow];rfl
  .show cellsAt false 1 5 m d els off=_;unfold cellsAt;rw[show Nat.div off 5=off/5 from rfl,show Nat.mod off 5=0 from hmod,hb,hrow];rfl
  .show cellsAt true 4 5 m d els (off+1)=_;unfold cellsAt;rw[show Nat.div (off+1) 5=off/5 from d1,show Nat.mod (off+1) 5=1 from m1,hb,hrow];rfl
 have he:=h.els;cases v with
 |sl id off len cap=>have g:=gen id off len he;have hl:=jm (show 0<5 by omega) (show(bif Nat.beq len 0 then some []else sliceElems H 5 id off len)=some _ from he);rw[List.length_cons]at hl;refine⟨id,_,?_,h.old id off len cap (by omega) (.inl rfl),g⟩;show Bool.rec (motive:=λ_=>AVal) .bad (.ptr id (Nat.add off (Nat.mul 0 5))) (Nat.blt 0 len)=_;rw[show Nat.blt 0 len=true from Nat.ble_eq_true_of_le (by omega)]
 |sg id off len ez=>have g:=gen id off len he;have hl:=jm (show 0<5 by omega) (show(bif Nat.beq len 0 then some []else sliceElems H 5 id off len)=some _ from he);rw[List.length_cons]at hl;refine⟨id,_,?_,h.old id off len ez (by omega) (.inr rfl),g⟩;show Bool.rec (motive:=λ_=>AVal) .bad (.ptr id (Nat.add off (Nat.mul 0 5))) (Nat.blt 0 len)=_;rw[show Nat.blt 0 len=true from Nat.ble_eq_true_of_le (by omega)]
 |snil=>cases he
 |se=>cases he
 |_=>cases he
end Go.Ex
namespace Go.Ex
open Go
theorem Gr.mv{n0 esz:Nat}{H:AH}{v:AVal}{rows:List (List AVal)}(h:Gr n0 esz H v rows)(k:AVal->R):Go.Ex.mv v k=k v:=by cases h<;>rfl
theorem Nw.els{H:AH}{id:Pth}{esz:Nat}{row:List AVal}(h:Nw H id esz [row])(hid:id.toNat<H.next.toNat):elsOf H esz (.sl id 0 1 1)=some [row]:=by rw[g_];exact(h.sl (cap:=1) hid).els
end Go.Ex
namespace Go.Ex.KB
open Go Go.Ex Go.Ex.KD
abbrev KM:Type:=AVal->AVal->AVal->Pth->Nat->AH->R
structure Same(H0 H:AH):Prop where
 le:H0.next.toNat<=H.next.toNat
 get:∀q,q.toNat<H0.next.toNat->H.m.get .dead q=H0.m.get .dead q
theorem Same.AV{H0 H H1:AH}{c:Nat}(h:Same H0 H)(he:Ext c H H1):Same H0 H1:=⟨Nat.le_trans h.le he.le,λq hq=>(he.same q (Nat.lt_of_lt_of_le hq h.le)).trans (h.get q hq)⟩
section
variable{H0 H:AH}{a0 a1 a5:AVal}{i7:Pth}{acc ta tb:List (List AVal)}{x c0 c1 c2 c3:AVal}
theorem lZ{row:List AVal}(hs:Same H0 H)(hg:Gr H0.next.toNat 5 H a5 acc)(hl:acc.length<100000){k:Pth}(hw:Nw H k 5 [row])(hk:k.toNat<H.next.toNat)(K:AVal->AH->R):∃a5' H',apK 5 72 a5 (.sl k 0 1 1) H K=K a5' H'/\Gr H0.next.toNat 5 H' a5' (acc++[row])/\H'.next.toNat=H.next.toNat+1/\Same H0 H':=by obtain⟨v',H',e1,e2,e3,e4⟩:=AU hg hs.le (hw.els hk) (hw.each _ (List.mem_singleton.2 rfl)) (by omega) (show 72<1000 by omega) hl K;refine⟨v',H',e1,e2,by rw[e3];exact Pth.ab _,⟨by rw[e3,Pth.ab];have:=hs.le;omega,λq hq=>(e4 q hq).trans (hs.get q hq)⟩⟩
theorem rj(k0:KM)(hs:Same H0 H)(hA:Sl H0 5 a0 ([x,c0,c1,c2,c3]::ta))(hc:Fj 5 a0=true)(hg:Gr H0.next.toNat 5 H a5 acc)(hl:acc.length<100000):∃a0' a5' H',Ik k0 a0 a1 a5 i7 0 H=k0 a0' a1 a5' i7 0 H'/\Sl H0 5 a0' ta/\Fj 5 a0'=true/\Gr H0.next.toNat 5 H' a5' (acc++[[x,c0,c1,c2,c3]])/\H'.next.toNat=H.next.toNat+2/\Same H0 H':=by
 obtain⟨id,off,e1,e2,e3⟩:=hA.Fp;obtain⟨f1,f2,f3⟩:=e3 H (hs.get id e2);obtain⟨a0',t1,t2,t3⟩:=hA.tail hc;unfold Ik;rw[e1,ba,f1,aO];obtain⟨b1,b2⟩:=qO (esz:=5) (z:=[(.int .i64 0),(.bool false),.snil,(.bool false),.snil]) (row:=[x,c0,c1,c2,c3]) (by omega) rfl H (λi52 H53=>apK 5 72 a5 (.sl i52 0 1 1) H53 λv54 H55=>mv v54 λv56=>pv (slcO 5 a0 (some (.int .i64 (.ofNat 1))) none) λv57=>mv v57 λv58=>k0 v58 a1 v56 i7 0 H55);rw[b1];have hE:=(Ext.refl H).add (.arr 5 1 [(.int .i64 0),(.bool false),.snil,(.bool false),.snil] (T8.put [] [x,c0,c1,c2,c3] (key 0) .nil));have hn:(H.add (.arr 5 1 [(.int .i64 0),(.bool false),.snil,(.bool false),.snil] (T8.put [] [x,c0,c1,c2,c3] (key 0) .nil))).next.toNat=H.next.toNat+1:=Pth.ab _
 generalize (H.add (.arr 5 1 [(.int .i64 0),(.bool false),.snil,(.bool false),.snil] (T8.put [] [x,c0,c1,c2,c3] (key 0) .nil)))=H53 at *;obtain⟨a5',H',g1,g2,g3,g4⟩:=lZ (hs.AV hE) (hg.keep hE.le λq _ hq=>hE.same q hq) hl b2 (by omega) (λv54 H55=>mv v54 λv56=>pv (slcO 5 a0 (some (.int .i64 (.ofNat 1))) none) λv57=>mv v57 λv58=>k0 v58 a1 v56 i7 0 H55);rw[g1,g2.mv,t1,t2.mv];exact⟨a0',a5',H',rfl,t2,t3,g2,by omega,g4⟩
theorem AW{y w:AVal}(h:negv y=some w):okRow w 4/\∀H,FT [y] H=.ok w H:=by obtain⟨H1,h1⟩:=bK h;obtain⟨h2,h3⟩:=lV lU h1;exact⟨h2,λH=>by unfold FT;exact bM (h3 H)⟩
theorem AY{H4 H:AH}{f:AH->AVal}{v:AVal}(h0:f H=v)(hv:v.eqv v=true)(r:R):chkK [H4,H,H,H] 3 [⟨0,2,f,v⟩] r=r:=by
 unfold chkK;have:chkA [H4,H,H,H] 3 [⟨0,2,f,v⟩]=true:=by show Bool.rec (motive:=λ_=>Bool) false true (Bool.rec (motive:=λ_=>Bool) false (Bool.rec (motive:=λ_=>Bool) false (Bool.rec (motive:=λ_=>Bool) false true (eqvF (f H) v)) (eqvF (f H) v)) (eqvF (f H) v))=true;rw[h0,gY,hv]
 rw[this]
theorem dp(n:Int)(k:AVal->R):pv (.int .i64 n) k=k (.int .i64 n):=by
 first
  |exact fN _ _ _
theorem fU(l:List AVal)(k:AVal->R):pv (.agg l) k=k (.agg l):=rfl
theorem rk{row z:List AVal}(hl:row.length=5)(H:AH):Nw (AH.set ⟨H.next.succ,H.m⟩ H.next (.arr 5 1 z (T8.put [] row (key 0) .nil))) H.next 5 [row]:=by
 have hne:row≠[]:=by intro e;subst e;simp at hl
 refine⟨⟨z,T8.put [] row (key 0) .nil,aJ _ _,λj hj=>?_⟩,by omega,λr hr=>by rw[List.mem_singleton.1 hr];exact hl⟩;have:j=0:=by simp at hj;omega
 subst this;unfold elem;rw[aL,bE hne];rfl
theorem rm{row z:List AVal}(hl:row.length=5)(id:Pth):bslP 5 1 z [(0,.agg row)] id=some (.arr 5 1 z (T8.put [] row (key 0) .nil),.sl id 0 1 1):=by
 have:bslE 5 .nil [(0,.agg row)]=some (T8.put [] row (key 0) .nil):=by show Bool.rec (motive:=λ_=>Option (T8 (List AVal))) none (some (T8.put [] row (keyF 0) .nil)) (Nat.blt 0 5&&lenIs row 5)=_;rw[show lenIs row 5=true from by rw[<-hl];exact iU row,cF];rfl
 unfold bslP;rw[this]
variable{d0 d1 d2 d3:AVal}{y:Int}
theorem rq(k0:KM)(hs:Same H0 H)(hB:Sl H0 5 a1 ([.int .i64 y,d0,d1,d2,d3]::tb))(hc:Fj 5 a1=true)(hg:Gr H0.next.toNat 5 H a5 acc)(hl:acc.length<100000){lc:List AVal}(h7:B4 H0 i7 lc)(n7:i7.toNat<H0.next.toNat){m:AVal}{wl:List AVal}(hm:mulv (.agg lc) (.agg [d0,d1,d2,d3])=some m)(hw:negv m=some (.agg wl)):∃a1' a5' H',Il k0 a0 a1 a5 i7 0 H=k0 a0 a1' a5' i7 0 H'/\Sl H0 5 a1' tb/\Fj 5 a1'=true/\Gr H0.next.toNat 5 H' a5' (acc++[.int .i64 y::wl])/\H'.next.toNat=H.next.toNat+2/\Same H0 H':=by
 obtain⟨id,off,e1,e2,e3⟩:=hB.Fp;obtain⟨f1,f2,f3⟩:=e3 ⟨H.next.succ,H.m⟩ (hs.get id e2);obtain⟨a1',t1,t2,t3⟩:=hB.tail hc;have g7:lA i7 true 4 0 ⟨H.next.succ,H.m⟩=.agg lc:=(h7.keep (H1:=⟨H.next.succ,H.m⟩) (hs.get i7 n7)).lA;obtain⟨_,hm2⟩:=jf.mul _ _ _ hm;obtain⟨⟨wl',e,hwl,hwe⟩,hw2⟩:=AW hw;cases e
 obtain⟨w0,w1,w2,w3,rfl⟩:∃a b c e,wl=[a,b,c,e]:=by
  match wl,hwl with
  |[a,b,c,e],_=>exact⟨a,b,c,e,rfl⟩
 unfold Il letH;dsimp only;rw[hg.mv,hB.mv,e1,ba,aV,f2,dp,g7,fU,hB.mv,e1,ba,aV];show∃a1' a5' H',pv (lA id true 4 (off+1) ⟨H.next.succ,H.m⟩) _=_/\_;rw[f3,aO,hm2,aH,hw2,aH];have hbu:buildE [(0,1,.int .i64 y),(1,4,.agg [w0,w1,w2,w3])] [(.int .i64 0),(.bool false),.snil,(.bool false),.snil]=.agg [.int .i64 y,w0,w1,w2,w3]:=rfl;have hmk:∀(o:AObj) (v:AVal) (k:AObj->AVal->R),mkK (some (o,v)) k=k o v:=λ_ _ _=>rfl
 rw[hbu,aO,rm rfl,hmk];rw[ei];have hb:=rk (row:=[.int .i64 y,w0,w1,w2,w3]) (z:=[(.int .i64 0),(.bool false),.snil,(.bool false),.snil]) rfl H;have hn:(AH.set ⟨H.next.succ,H.m⟩ H.next (.arr 5 1 [(.int .i64 0),(.bool false),.snil,(.bool false),.snil] (T8.put [] [.int .i64 y,w0,w1,w2,w3] (key 0) .nil))).next.toNat=H.next.toNat+1:=Pth.ab _
 have hk:∀q,q.toNat<H.next.toNat->(AH.set ⟨H.next.succ,H.m⟩ H.next (.arr 5 1 [(.int .i64 0),(.bool false),.snil,(.bool false),.snil] (T8.put [] [.int .i64 y,w0,w1,w2,w3] (key 0) .nil))).m.get .dead q=H.m.get .dead q:=λq hq=>af (λe=>by subst e;omega) _
 generalize (AH.set ⟨H.next.succ,H.m⟩ H.next (.arr 5 1 [(.int .i64 0),(.bool false),.snil,(.bool false),.snil] (T8.put [] [.int .i64 y,w0,w1,w2,w3] (key 0) .nil)))=H102 at *
 obtain⟨a5',H',g1,g2,g3,g4⟩:=lZ (H:=H102) ⟨by have:=hs.le;omega,λq hq=>(hk q (Nat.lt_of_lt_of_le hq hs.le)).trans (hs.get q hq)⟩ (hg.keep (by omega) λq _ hq=>hk q hq) hl hb (by omega)
  (λFV H104=>mv FV λGs=>chkK [H104,⟨H.next.succ,H.m⟩,⟨H.next.succ,H.m⟩,⟨H.next.succ,H.m⟩] 3 [⟨0,2,(loadK false 1 (.ptr id off)),.int .i64 y⟩] (pv (slcO 5 a1 (some (.int .i64 (.ofNat 1))) none) λJi=>mv Ji λJj=>k0 a0 Jj Gs i7 0 H104))
 have ld:loadK false 1 (.ptr id off) ⟨H.next.succ,H.m⟩=.int .i64 y:=by rw[bj];exact(dE _ _ _).symm.trans f2
 refine⟨a1',a5',H',?_,t2,t3,g2,by omega,g4⟩;refine g1.trans ?_;rw[g2.mv,AY ld (by show(kindEq .i64 .i64&&intEq y y)=true;rw[bY];simp;rfl),t1,t2.mv]
end
end Go.Ex.KB
namespace Go.Ex.KB
open Go Go.Ex Go.Ex.KD
section
variable{H0 H:AH}{a0 a1 a5:AVal}{i7:Pth}{acc ta tb:List (List AVal)}{c0 c1 c2 c3 d0 d1 d2 d3:AVal}{x y:Int}
theorem rr(k0:KM)(hs:Same H0 H)(hA:Sl H0 5 a0 ([.int .i64 x,c0,c1,c2,c3]::ta))(hca:Fj 5 a0=true)(hB:Sl H0 5 a1 ([.int .i64 y,d0,d1,d2,d3]::tb))(hcb:Fj 5 a1=true):∃a0' a1',G_ k0 a0 a1 a5 i7 0 H=k0 a0' a1' a5 i7 0 H/\Sl H0 5 a0' ta/\Fj 5 a0'=true/\Sl H0 5 a1' tb/\Fj 5 a1'=true:=by obtain⟨a0',t1,t2,t3⟩:=hA.tail hca;obtain⟨a1',u1,u2,u3⟩:=hB.tail hcb;unfold G_;rw[hA.mv,t1,hB.mv,u1,t2.mv,u2.mv];exact⟨a0',a1',rfl,t2,t3,u2,u3⟩
theorem AZ(k0:KM)(hs:Same H0 H)(hA:Sl H0 5 a0 ([.int .i64 x,c0,c1,c2,c3]::ta))(hca:Fj 5 a0=true)(hB:Sl H0 5 a1 ([.int .i64 y,d0,d1,d2,d3]::tb))(hcb:Fj 5 a1=true)(hg:Gr H0.next.toNat 5 H a5 acc)(hl:acc.length<100000){i6:Pth}{w0 w1 w2 w3:AVal}(h6:B4 H i6 [w0,w1,w2,w3])(n6:i6.toNat<H.next.toNat):∃a0' a1' a5' H',Jk k0 a0 a1 a5 (.ptr i6 0) i7 0 H=k0 a0' a1' a5' i7 0 H'/\Sl H0 5 a0' ta/\Fj 5 a0'=true/\Sl H0 5 a1' tb/\Fj 5 a1'=true/\Gr H0.next.toNat 5 H' a5' (acc++[[.int .i64 x,w0,w1,w2,w3]])/\H'.next.toNat=H.next.toNat+2/\Same H0 H':=by
 obtain⟨id,off,e1,e2,e3⟩:=hA.Fp;obtain⟨f1,f2,f3⟩:=e3 ⟨H.next.succ,H.m⟩ (hs.get id e2);have l6:loadK true 4 (.ptr i6 0) ⟨H.next.succ,H.m⟩=.agg [w0,w1,w2,w3]:=by rw[bj];exact(bo _ _ _ _ _).symm.trans (h6.keep (H1:=⟨H.next.succ,H.m⟩) rfl).lA
 unfold Jk letH;dsimp only;have hbu:buildE [(0,1,.int .i64 x),(1,4,.agg [w0,w1,w2,w3])] [(.int .i64 0),(.bool false),.snil,(.bool false),.snil]=.agg [.int .i64 x,w0,w1,w2,w3]:=rfl;have hmk:∀(o:AObj) (v:AVal) (k:AObj->AVal->R),mkK (some (o,v)) k=k o v:=λ_ _ _=>rfl
 rw[hg.mv,hA.mv,e1,ba,aV,f2,dp,l6,fU,hbu,aO,rm rfl,hmk,ei];have hb:=rk (row:=[.int .i64 x,w0,w1,w2,w3]) (z:=[(.int .i64 0),(.bool false),.snil,(.bool false),.snil]) rfl H;have hn:(AH.set ⟨H.next.succ,H.m⟩ H.next (.arr 5 1 [(.int .i64 0),(.bool false),.snil,(.bool false),.snil] (T8.put [] [.int .i64 x,w0,w1,w2,w3] (key 0) .nil))).next.toNat=H.next.toNat+1:=Pth.ab _
 have hk:∀q,q.toNat<H.next.toNat->(AH.set ⟨H.next.succ,H.m⟩ H.next (.arr 5 1 [(.int .i64 0),(.bool false),.snil,(.bool false),.snil] (T8.put [] [.int .i64 x,w0,w1,w2,w3] (key 0) .nil))).m.get .dead q=H.m.get .dead q:=λq hq=>af (λe=>by subst e;omega) _
 generalize (AH.set ⟨H.next.succ,H.m⟩ H.next (.arr 5 1 [(.int .i64 0),(.bool false),.snil,(.bool false),.snil] (T8.put [] [.int .i64 x,w0,w1,w2,w3] (key 0) .nil)))=H102 at *
 obtain⟨a5',H',g1,g2,g3,g4⟩:=lZ (H:=H102) ⟨by have:=hs.le;omega,λq hq=>(hk q (Nat.lt_of_lt_of_le hq hs.le)).trans (hs.get q hq)⟩ (hg.keep (by omega) λq _ hq=>hk q hq) hl hb (by omega)
  (λv144 H145=>mv v144 λv146=>G_ k0 a0 a1 v146 i7 0 H145)
 obtain⟨a0',a1',j1,j2,j3,j4,j5⟩:=rr (a5:=a5') (i7:=i7) k0 g4 hA hca hB hcb;exact⟨a0',a1',a5',H',g1.trans ((g2.mv _).trans j1),j2,j3,j4,j5,g2,by omega,g4⟩
theorem A_(k0:KM)(hs:Same H0 H)(hA:Sl H0 5 a0 ([.int .i64 x,c0,c1,c2,c3]::ta))(hca:Fj 5 a0=true)(hB:Sl H0 5 a1 ([.int .i64 y,d0,d1,d2,d3]::tb))(hcb:Fj 5 a1=true)(hg:Gr H0.next.toNat 5 H a5 acc)(hl:acc.length<100000){lc:List AVal}(h7:B4 H0 i7 lc)(n7:i7.toNat<H0.next.toNat){m:AVal}{wl:List AVal}(hm:mulv (.agg lc) (.agg [d0,d1,d2,d3])=some m)(hcc:eqL [c0,c1,c2,c3] [c0,c1,c2,c3]=true)(hw:Iy (.agg [c0,c1,c2,c3]) m=some (.agg wl)){sg:Int}(hsg:sgnv (.agg wl)=some sg) :
 ∃a0' a1' a5' H',Jl k0 a0 a1 a5 i7 0 H=k0 a0' a1' a5' i7 0 H'/\Sl H0 5 a0' ta/\Fj 5 a0'=true/\Sl H0 5 a1' tb/\Fj 5 a1'=true/\
  Gr H0.next.toNat 5 H' a5' (acc++bif intEqF sg (.ofNat 0)then[]else[.int .i64 x::wl])/\H'.next.toNat<=H.next.toNat+12/\Same H0 H':=by
 obtain⟨id,off,e1,e2,e3⟩:=hA.Fp;obtain⟨f1,f2,f3⟩:=e3 ⟨H.next.succ,H.m⟩ (hs.get id e2);obtain⟨id',off',e1',e2',e3'⟩:=hB.Fp;obtain⟨f1',f2',f3'⟩:=e3' ⟨H.next.succ,H.m⟩ (hs.get id' e2');have g7:lA i7 true 4 0 ⟨H.next.succ,H.m⟩=.agg lc:=(h7.keep (H1:=⟨H.next.succ,H.m⟩) (hs.get i7 n7)).lA;obtain⟨_,hm2⟩:=jf.mul _ _ _ hm;obtain⟨⟨wl',e,hwl,hwe⟩,hw2⟩:=rh hw;cases e
 obtain⟨w0,w1,w2,w3,rfl⟩:∃a b c e,wl=[a,b,c,e]:=by
  match wl,hwl with
  |[a,b,c,e],_=>exact⟨a,b,c,e,rfl⟩
 obtain⟨H123,hw3,hE⟩:=hw2 ⟨H.next.succ,H.m⟩;have hn1:(⟨H.next.succ,H.m⟩:AH).next.toNat=H.next.toNat+1:=Pth.ab _
 have t1:H.next.succ.toNat=H.next.toNat+1:=Pth.ab _
 unfold Jl letH;dsimp only;have hmk:∀k,mkK (boxV (.agg [(.bool false),.snil,(.bool false),.snil]) H.next) k=k (.arr 4 1 [(.bool false),.snil,(.bool false),.snil] .nil) (.ptr H.next 0):=λ_=>rfl
 have ea:Nat.add off 1=off+1:=rfl;have ea':Nat.add off' 1=off'+1:=rfl;rw[hA.mv,e1,ba,aV,ea,f3,fU,g7,fU,hB.mv,e1',ba,aV,ea',f3',fU,hm2,aH,hw3,aH,hmk,ei];have hb4:B4 (AH.set H123 H.next (.arr 4 1 [(.bool false),.snil,(.bool false),.snil] .nil)) H.next [(.bool false),.snil,(.bool false),.snil]:=⟨⟨_,_,aJ _ _,by unfold elem;rw[get_nil];rfl⟩,rfl⟩
 have hk:∀q,q≠H.next->(AH.set H123 H.next (.arr 4 1 [(.bool false),.snil,(.bool false),.snil] .nil)).m.get .dead q=H123.m.get .dead q:=λq hq=>af (Ne.symm hq) _
 have hn:(AH.set H123 H.next (.arr 4 1 [(.bool false),.snil,(.bool false),.snil] .nil)).next=H123.next:=rfl
 generalize (AH.set H123 H.next (.arr 4 1 [(.bool false),.snil,(.bool false),.snil] .nil))=H126 at *;obtain⟨H127,s1,s2,s3,s4⟩:=hb4.st (l':=[w0,w1,w2,w3]) rfl (λH127=>chkK [H127,H123,⟨H.next.succ,H.m⟩,⟨H.next.succ,H.m⟩] 3 [⟨0,1,(loadK true 4 (.ptr id (off+1))),.agg [c0,c1,c2,c3]⟩] (K0 k0 a0 a1 a5 (.ptr H.next 0) i7 0 H127));have ld:loadK true 4 (.ptr id (off+1)) ⟨H.next.succ,H.m⟩=.agg [c0,c1,c2,c3]:=by rw[bj];exact(bo _ _ _ _ _).symm.trans f3
 rw[s1,iV ld ld hcc];have hle:=hE.le;have hnx:=hE.next
 have hsl:=hs.le;have n127:H127.next=H123.next:=s3.trans hn
 have k127:∀q,q.toNat<H.next.toNat->H127.m.get .dead q=H.m.get .dead q:=λq hq=>(s4 q (ne_of_lt hq)).trans ((hk q (ne_of_lt hq)).trans (hE.same q (by omega)))
 have hs127:Same H0 H127:=⟨by rw[n127];omega,λq hq=>(k127 q (by omega)).trans (hs.get q hq)⟩;have hg127:Gr H0.next.toNat 5 H127 a5 acc:=hg.keep (by rw[n127];omega) λq _ hq=>k127 q hq
 unfold K0;have l6:loadK true 4 (.ptr H.next 0) H127=.agg [w0,w1,w2,w3]:=by rw[bj];exact(bo _ _ _ _ _).symm.trans s2.lA
 rw[l6,aO,jf.sgn _ _ hsg,aH,i_];cases hz:intEqF sg (.ofNat 0)with
 |true=>
  show∃a0' a1' a5' H',G_ k0 a0 a1 a5 i7 0 H127=_/\_;obtain⟨a0',a1',j1,j2,j3,j4,j5⟩:=rr (a5:=a5) (i7:=i7) k0 hs127 hA hca hB hcb;refine⟨a0',a1',a5,H127,j1,j2,j3,j4,j5,?_,by rw[n127];omega,hs127⟩;show Gr H0.next.toNat 5 H127 a5 (acc++[])
  rw[List.append_nil];exact hg127
 |false=>show∃a0' a1' a5' H',Jk k0 a0 a1 a5 (.ptr H.next 0) i7 0 H127=_/\_;obtain⟨a0',a1',a5',H',j1,j2,j3,j4,j5,j6,j7,j8⟩:=AZ (i7:=i7) k0 hs127 hA hca hB hcb hg127 hl s2 (by rw[n127];omega);exact⟨a0',a1',a5',H',j1,j2,j3,j4,j5,j6,by rw[j7,n127];omega,j8⟩
end
end Go.Ex.KB
namespace Go.Ex.KB
open Go Go.Ex Go.Ex.KD
theorem Ba(op:(AVal->AVal->AVal->AVal->List Rq->R)->R)(J:AVal->AVal->AVal->AVal->List Rq->R)(q:List Rq):gdM 4 false (.bool true) op J q=J undefV undefV undefV undefV q:=rfl
theorem ru(op:(AVal->AVal->AVal->AVal->List Rq->R)->R)(J:AVal->AVal->AVal->AVal->List Rq->R)(q:List Rq):gdM 4 false (.bool false) op J q=op J:=rfl
abbrev J9:Type:=AVal->AVal->AVal->AVal->AVal->AVal->AVal->AVal->AVal->List Rq->R
theorem rF(c:Bool)(op:J9->R)(J:J9)(q:List Rq):gdM 9 c (.bool c) op J q=op J:=by cases c<;>rfl
theorem Bb(op:J9->R)(J:J9)(q:List Rq):gdM 9 true undefV op J q=J undefV undefV undefV undefV undefV undefV undefV undefV undefV q:=rfl
theorem Bc(op:(AVal->List Rq->R)->R)(J:AVal->List Rq->R)(q:List Rq):gdM 1 false (.bool true) op J q=J undefV q:=rfl
theorem rG(a b:Int):bin3 .lss (.int .i64 a) (.int .i64 b)=.bool (intLtF a b):=by
 rw[kp]
 first
  |rfl
  |(show AVal.bool (intLt a b)=_;rw[km])
theorem rH(a b:Int):bin3 .gtr (.int .i64 a) (.int .i64 b)=.bool (intLtF b a):=by
 rw[kp]
 first
  |rfl
  |(show AVal.bool (intLt b a)=_;rw[km])
section
variable{H0 H:AH}{a0 a1 a5:AVal}{i7:Pth}{la lb:List (List AVal)}
theorem Bd(k0:KM)(hB:Sl H0 5 a1 []):F_ k0 a0 a1 a5 i7 0 H=Ik k0 a0 a1 a5 i7 0 H:=by unfold F_;rw[hB.mv,hB.len,aU,show intEqF (.ofNat ([]:List (List AVal)).length) (.ofNat 0)=true from rfl];erw[Ba,Bb,Bc];rfl
theorem Be(k0:KM)(hA:Sl H0 5 a0 []){rb:List AVal}{tb:List (List AVal)}(hB:Sl H0 5 a1 (rb::tb)):F_ k0 a0 a1 a5 i7 0 H=GH k0 a0 a1 a5 i7 0 H:=by unfold F_;rw[hB.mv,hB.len,aU,show intEqF (.ofNat (rb::tb).length) (.ofNat 0)=false from rfl];erw[ru];rw[hA.mv,hA.len,dp,rH];rfl
theorem jo(id:Pth)(off:Nat)(H:AH):loadK false 1 (.ptr id off) H=l1 id off H:=by rw[bj];exact(dE _ _ _).symm
theorem dq(id:Pth)(off:Nat)(k:AVal->R):pv (.ptr id off) k=k (.ptr id off):=by rw[om]
theorem jq(id:Pth)(off:Nat):faddrF 0 (.ptr id off)=.ptr id off:=rfl
theorem Bf(k0:KM){x y:Int}{c0 c1 c2 c3 d0 d1 d2 d3:AVal}{ta tb:List (List AVal)}(hs:Same H0 H)(hA:Sl H0 5 a0 ([.int .i64 x,c0,c1,c2,c3]::ta))(hB:Sl H0 5 a1 ([.int .i64 y,d0,d1,d2,d3]::tb)):F_ k0 a0 a1 a5 i7 0 H=br (intLtF x y) (Ik k0 a0 a1 a5 i7 0 H) (GH k0 a0 a1 a5 i7 0 H):=by
 obtain⟨id,off,e1,e2,e3⟩:=hA.Fp;obtain⟨_,f2,_⟩:=e3 H (hs.get id e2);obtain⟨id',off',e1',e2',e3'⟩:=hB.Fp;obtain⟨_,f2',_⟩:=e3' H (hs.get id' e2');unfold F_;rw[hB.mv,hB.len,aU,show intEqF (.ofNat ([.int .i64 y,d0,d1,d2,d3]::tb).length) (.ofNat 0)=false from rfl];erw[ru];rw[hA.mv,hA.len,dp,rH,show intLtF (.ofNat 0) (.ofNat ([.int .i64 x,c0,c1,c2,c3]::ta).length)=true from rfl];have hmb:∀(k:AVal->R),mv (.bool true) k=k (.bool true):=λk=>rfl
 rw[qU,hmb];dsimp only;erw[rF true];dsimp only;rw[hA.mv,e1,dq,jq,dq,jo,f2,dp,hB.mv,e1',dq,jq,dq,jo,f2',dp,rG];cases intLtF x y<;>rfl
theorem Bg(k0:KM)(hA:Sl H0 5 a0 []):GH k0 a0 a1 a5 i7 0 H=Il k0 a0 a1 a5 i7 0 H:=by unfold GH;rw[hA.mv,hA.len,aU];rfl
theorem Bh(k0:KM){x y:Int}{c0 c1 c2 c3 d0 d1 d2 d3:AVal}{ta tb:List (List AVal)}(hs:Same H0 H)(hA:Sl H0 5 a0 ([.int .i64 x,c0,c1,c2,c3]::ta))(hB:Sl H0 5 a1 ([.int .i64 y,d0,d1,d2,d3]::tb)):GH k0 a0 a1 a5 i7 0 H=br (intLtF y x) (Il k0 a0 a1 a5 i7 0 H) (Jl k0 a0 a1 a5 i7 0 H):=by obtain⟨id,off,e1,e2,e3⟩:=hA.Fp;obtain⟨_,f2,_⟩:=e3 H (hs.get id e2);obtain⟨id',off',e1',e2',e3'⟩:=hB.Fp;obtain⟨_,f2',_⟩:=e3' H (hs.get id' e2');unfold GH;rw[hA.mv,hA.len,aU,show intEqF (.ofNat ([.int .i64 x,c0,c1,c2,c3]::ta).length) (.ofNat 0)=false from rfl];erw[rF false];dsimp only;rw[hB.mv,e1',dq,jq,dq,jo,f2',dp,hA.mv,e1,dq,jq,dq,jo,f2,dp,rG];cases intLtF y x<;>rfl
theorem Bi(k0:KM)(hA:Sl H0 5 a0 [])(hB:Sl H0 5 a1 []){v:AVal}(hv:∀k,mv v k=k v)(hr:resE [v] H=.ok v H):Fw k0 a0 a1 v i7 0 H=.ok v H:=by unfold Fw;rw[hA.len,aU];show mv a1 _=_;rw[hB.mv,hB.len,aU];show mv v _=_;rw[hv,hr]
theorem rI(k0:KM){ra:List AVal}{ta:List (List AVal)}(hA:Sl H0 5 a0 (ra::ta)):Fw k0 a0 a1 a5 i7 0 H=F_ k0 a0 a1 a5 i7 0 H:=by unfold Fw;rw[hA.len,aU];rfl
theorem Bj(k0:KM){rb:List AVal}{tb:List (List AVal)}(hA:Sl H0 5 a0 [])(hB:Sl H0 5 a1 (rb::tb)):Fw k0 a0 a1 a5 i7 0 H=F_ k0 a0 a1 a5 i7 0 H:=by unfold Fw;rw[hA.len,aU];show mv a1 _=_;rw[hB.mv,hB.len,aU];rfl
end
end Go.Ex.KB
namespace Go.Ex.KB
open Go Go.Ex Go.Ex.KD
def consO{α:Type}(r:α)(o:Option (List α)):Option (List α):=Option.rec (motive:=λ_=>Option (List α)) none (λl=>some (r::l)) o
theorem fV{α:Type}{r:α}{o:Option (List α)}{l:List α}(h:consO r o=some l):∃t,o=some t/\l=r::t:=by
 cases o with
 |none=>cases h
 |some t=>cases h;exact⟨t,rfl,rfl⟩
def Fp(r:List AVal):Option (Int×List AVal):=match r with
 |[.int .i64 n,a,b,c,d]=>some (n,[a,b,c,d])
 |_=>none
theorem jt{r:List AVal}{n:Int}{l:List AVal}(h:Fp r=some (n,l)):∃a b c d,r=[.int .i64 n,a,b,c,d]/\l=[a,b,c,d]:=by
 unfold Fp at h;split at h
 .cases h;exact⟨_,_,_,_,rfl,rfl⟩
 .cases h
def Iz(v:AVal):Option (List AVal):=match v with
 |.agg l=>some l
 |_=>none
theorem l4{v:AVal}{l:List AVal}(h:Iz v=some l):v=.agg l:=by
 unfold Iz at h;split at h
 .cases h;rfl
 .cases h
def He(c:AVal)(y:Int)(d:List AVal):Option (List AVal):=(mulv c (.agg d)).bind λm=>(negv m).bind λw=>(Iz w).bind λl=>some (.int .i64 y::l)
def FY(c:AVal)(n:Nat):List (List AVal)->List (List AVal)->Option (List (List AVal)):=
 Nat.rec (motive:=λ_=>List (List AVal)->List (List AVal)->Option (List (List AVal))) (λ_ _=>none) (λ_ ih la lb=>
  List.rec (motive:=λ_=>Option (List (List AVal)))
   (List.rec (motive:=λ_=>Option (List (List AVal))) (some []) (λrb tb _=>(Fp rb).bind λq=>(He c q.1 q.2).bind λr=>consO r (ih [] tb)) lb)
   (λra ta _=>(Fp ra).bind λp=>List.rec (motive:=λ_=>Option (List (List AVal))) (consO ra (ih ta [])) (λrb tb _=>(Fp rb).bind λq=>
    bif intLtF p.1 q.1 then consO ra (ih ta (rb::tb))else bif intLtF q.1 p.1 then(He c q.1 q.2).bind λr=>consO r (ih (ra::ta) tb)else
     bif eqL p.2 p.2 then(mulv c (.agg q.2)).bind λm=>(Iy (.agg p.2) m).bind λw=>(Iz w).bind λl=>(sgnv w).bind λs=>bif intEqF s (.ofNat 0)then ih ta tb else consO (.int .i64 p.1::l) (ih ta tb)
     else none) lb) la) n
section
variable{H0:AH}{i7:Pth}{lc:List AVal}(h7:B4 H0 i7 lc)(n7:i7.toNat<H0.next.toNat)
include h7 n7
theorem Bk:∀(n N:Nat) (la lb acc res:List (List AVal)) (H:AH) (a0 a1 a5:AVal),n<=N->Same H0 H->Sl H0 5 a0 la->Fj 5 a0=true->Sl H0 5 a1 lb->Fj 5 a1=true->Gr H0.next.toNat 5 H a5 acc->acc.length+n<100000->FY (.agg lc) n la lb=some res->∃H' v',loopN Kt.no Fw N a0 a1 a5 i7 0 H=.ok v' H'/\Gr H0.next.toNat 5 H' v' (acc++res)/\Same H0 H'/\H'.next.toNat<=H.next.toNat+12*n:=by
 intro n
 induction n with
 |zero=>intro N la lb acc res H a0 a1 a5 _ _ _ _ _ _ _ _ h;cases h
 |succ n ih=>
  intro N la lb acc res H a0 a1 a5 hN hs hA hca hB hcb hg hl h;obtain⟨N,rfl⟩:∃M,N=M+1:=⟨N-1,by omega⟩;rw[bW];cases la with
  |nil=>
   cases lb with
   |nil=>cases h;refine⟨H,a5,?_,by rw[List.append_nil];exact hg,hs,by omega⟩;exact Bi _ hA hB (λk=>hg.mv k) (by cases hg<;>rfl)
   |cons rb tb=>have h:((Fp rb).bind λq=>(He (.agg lc) q.1 q.2).bind λr=>consO r (FY (.agg lc) n [] tb))=some res:=h;simp only[Option.bind_eq_some_iff]at h;obtain⟨⟨y,d⟩,hr,r,hm,h⟩:=h;obtain⟨t,ht,rfl⟩:=fV h;obtain⟨d0,d1,d2,d3,rfl,rfl⟩:=jt hr;unfold He at hm;simp only[Option.bind_eq_some_iff]at hm;obtain⟨m,hm,w,hw,l,hl',hq⟩:=hm;cases l4 hl';cases hq;rw[Bj _ hA hB,Be _ hA hB,Bg _ hA];obtain⟨a1',a5',H',f1,f2,f3,f4,f5,f6⟩:=rq (a0:=a0) (loopN Kt.no Fw N) hs hB hcb hg (by omega) h7 n7 hm hw;rw[f1];obtain⟨H2,v2,g1,g2,g3,g4⟩:=ih N [] tb _ t H' a0 a1' a5' (by omega) f6 hA hca f2 f3 f4 (by rw[List.length_append];show acc.length+1+n<_;omega) ht;refine⟨H2,v2,g1,?_,g3,by omega⟩;rw[List.append_assoc]at g2;exact g2
  |cons ra ta=>
   cases lb with
   |nil=>have h:((Fp ra).bind λp=>consO ra (FY (.agg lc) n ta []))=some res:=h;simp only[Option.bind_eq_some_iff]at h;obtain⟨⟨x,c⟩,hr,h⟩:=h;obtain⟨t,ht,rfl⟩:=fV h;obtain⟨c0,c1,c2,c3,rfl,rfl⟩:=jt hr;rw[rI _ hA,Bd _ hB];obtain⟨a0',a5',H',f1,f2,f3,f4,f5,f6⟩:=rj (a1:=a1) (i7:=i7) (loopN Kt.no Fw N) hs hA hca hg (by omega);rw[f1];obtain⟨H2,v2,g1,g2,g3,g4⟩:=ih N ta [] _ t H' a0' a1 a5' (by omega) f6 f2 f3 hB hcb f4 (by rw[List.length_append];show acc.length+1+n<_;omega) ht;refine⟨H2,v2,g1,?_,g3,by omega⟩;rw[List.append_assoc]at g2;exact g2
   |cons rb tb=>
    have h:((Fp ra).bind λp=>(Fp rb).bind λq=>
     bif intLtF p.1 q.1 then consO ra (FY (.agg lc) n ta (rb::tb))else bif intLtF q.1 p.1 then(He (.agg lc) q.1 q.2).bind λr=>consO r (FY (.agg lc) n (ra::ta) tb)else
      bif eqL p.2 p.2 then(mulv (.agg lc) (.agg q.2)).bind λm=>(Iy (.agg p.2) m).bind λw=>(Iz w).bind λl=>(sgnv w).bind λs=>bif intEqF s (.ofNat 0)then FY (.agg lc) n ta tb else consO (.int .i64 p.1::l) (FY (.agg lc) n ta tb)
      else none)=some res:=h
    simp only[Option.bind_eq_some_iff]at h;obtain⟨⟨x,c⟩,hra,⟨y,d⟩,hrb,h⟩:=h;obtain⟨c0,c1,c2,c3,rfl,rfl⟩:=jt hra;obtain⟨d0,d1,d2,d3,rfl,rfl⟩:=jt hrb;rw[rI _ hA,Bf _ hs hA hB];dsimp only at h;cases h1:intLtF x y with
    |true=>rw[h1]at h;obtain⟨t,ht,rfl⟩:=fV h;rw[bV];obtain⟨a0',a5',H',f1,f2,f3,f4,f5,f6⟩:=rj (a1:=a1) (i7:=i7) (loopN Kt.no Fw N) hs hA hca hg (by omega);rw[f1];obtain⟨H2,v2,g1,g2,g3,g4⟩:=ih N ta _ _ t H' a0' a1 a5' (by omega) f6 f2 f3 hB hcb f4 (by rw[List.length_append];show acc.length+1+n<_;omega) ht;refine⟨H2,v2,g1,?_,g3,by omega⟩;rw[List.append_assoc]at g2;exact g2
    |false=>
     rw[h1]at h;rw[bf,Bh _ hs hA hB];cases h2:intLtF y x with
     |true=>rw[h2]at h;have h:((He (.agg lc) y [d0,d1,d2,d3]).bind λr=>consO r (FY (.agg lc) n ([.int .i64 x,c0,c1,c2,c3]::ta) tb))=some res:=h;simp only[Option.bind_eq_some_iff]at h;obtain⟨r,hm,h⟩:=h;obtain⟨t,ht,rfl⟩:=fV h;unfold He at hm;simp only[Option.bind_eq_some_iff]at hm;obtain⟨m,hm,w,hw,l,hl',hq⟩:=hm;cases l4 hl';cases hq;rw[bV];obtain⟨a1',a5',H',f1,f2,f3,f4,f5,f6⟩:=rq (a0:=a0) (loopN Kt.no Fw N) hs hB hcb hg (by omega) h7 n7 hm hw;rw[f1];obtain⟨H2,v2,g1,g2,g3,g4⟩:=ih N _ tb _ t H' a0 a1' a5' (by omega) f6 hA hca f2 f3 f4 (by rw[List.length_append];show acc.length+1+n<_;omega) ht;refine⟨H2,v2,g1,?_,g3,by omega⟩;rw[List.append_assoc]at g2;exact g2
     |false=>
      rw[h2]at h;rw[bf];cases h3:eqL [c0,c1,c2,c3] [c0,c1,c2,c3]with
      |false=>rw[h3]at h;cases h
      |true=>
       rw[h3]at h;have h:((mulv (.agg lc) (.agg [d0,d1,d2,d3])).bind λm=>(Iy (.agg [c0,c1,c2,c3]) m).bind λw=>(Iz w).bind λl=>(sgnv w).bind λs=>bif intEqF s (.ofNat 0)then FY (.agg lc) n ta tb else consO (.int .i64 x::l) (FY (.agg lc) n ta tb))=some res:=h;simp only[Option.bind_eq_some_iff]at h;obtain⟨m,hm,w,hw,l,hl',sg,hsg,h⟩:=h;cases l4 hl';obtain⟨a0',a1',a5',H',f1,f2,f3,f4,f5,f6,f7,f8⟩:=A_ (loopN Kt.no Fw N) hs hA hca hB hcb hg (by omega) h7 n7 hm h3 hw hsg;rw[f1];cases h4:intEqF sg (.ofNat 0)with
       |true=>rw[h4]at h f6;obtain⟨H2,v2,g1,g2,g3,g4⟩:=ih N ta tb _ res H' a0' a1' a5' (by omega) f8 f2 f3 f4 f5 f6 (by rw[List.length_append];show acc.length+0+n<_;omega) h;refine⟨H2,v2,g1,?_,g3,by omega⟩;rw[List.append_assoc]at g2;exact g2
       |false=>rw[h4]at h f6;obtain⟨t,ht,rfl⟩:=fV h;obtain⟨H2,v2,g1,g2,g3,g4⟩:=ih N ta tb _ t H' a0' a1' a5' (by omega) f8 f2 f3 f4 f5 f6 (by rw[List.length_append];show acc.length+1+n<_;omega) ht;refine⟨H2,v2,g1,?_,g3,by omega⟩;rw[List.append_assoc]at g2;exact g2
end
end Go.Ex.KB
namespace Go.Ex
open Go
def M6(esz c:Nat)(rows:List (List AVal))(H:AH):R:=List.rec (motive:=λ_=>R) (.ok .snil ⟨keyC H c,H.m⟩) (λ_ _ _=>fz (lenK rows) λn=>putElsC 0 rows .nil λe=>(putHc (keyC H c)).run (.arr esz n [] e) H.m λm=>.ok (.sg (keyC H c) 0 n esz) ⟨succF (keyC H c),m⟩) rows
theorem Bl(esz c:Nat){rows:List (List AVal)}(h:rows≠[])(H:AH):M6 esz c rows H=.ok (.sg (keyC H c) 0 rows.length esz) ⟨(keyC H c).succ,H.m.put .dead (.arr esz rows.length [] (putEls 0 rows .nil)) (keyC H c)⟩:=by
 cases rows with
 |nil=>exact absurd rfl h
 |cons r l=>show(fz (lenK (r::l)) λn=>putElsC 0 (r::l) .nil λe=>(putHc (keyC H c)).run (.arr esz n [] e) H.m λm=>R.ok (.sg (keyC H c) 0 n esz) ⟨succF (keyC H c),m⟩)=_;rw[aN,dg,eh,ff,hJ,cZ]
theorem Bm{H H1:AH}{c esz:Nat}{v1:AVal}{rows:List (List AVal)}(hg:Gr H.next.toNat esz H1 v1 rows)(hp:0<esz):∃v H',M6 esz c rows H=.ok v H'/\Told H H1 c v1 v H':=by
 cases hg with
 |nil=>exact⟨_,_,rfl,.none _⟩
 |sg k rows hn h0 h1 hne=>obtain⟨d1,els1,g1,g2⟩:=hn.is;exact⟨_,_,Bl esz c hne H,Told.sg k rows.length esz esz rows.length _ d1 _ els1 g1 h0 λj hj=>(lW hp hn.each hj).trans (g2 j hj).symm⟩
end Go.Ex
namespace Go.Ex.KB
open Go Go.Ex Go.Ex.KD
def Jr(a c b:AVal)(H:AH):R:=FW (elsOf H 5 a) λla=>FW (elsOf H 5 b) λlb=>aggF c λlc=>Fe (lenG lc 4) <| Fe (Jq 5 la) <| Fe (Jq 5 lb) <| Fe (Fj 5 a) <| Fe (Fj 5 b) <|
 fz (Nat.succ (Nat.add (lenK la) (lenK lb))) λn=>Fe (Nat.blt n 100000) <| FW (FY (.agg lc) n la lb) λout=>M6 5 (12*n+1) out H
theorem Bn{a c b v:AVal}{H H':AH}(hw:Wf H)(h:Jr a c b H=.ok v H'):∃v1 H1 k,K2 [a,c,b] H=.ok v1 H1/\Ext k H H1/\Told H H1 k v1 v H':=by
 unfold Jr at h;obtain⟨la,ha,h⟩:=cB h;obtain⟨lb,hb,h⟩:=cB h;obtain⟨lc,rfl,h⟩:=di h;obtain⟨c0,h⟩:=aA h;obtain⟨c1,h⟩:=aA h;obtain⟨c2,h⟩:=aA h;obtain⟨c3,h⟩:=aA h;obtain⟨c4,h⟩:=aA h;have h:=(aN _ _).symm.trans h;obtain⟨c5,h⟩:=aA h;obtain⟨out,ho,hf⟩:=cB h;clear h;rw[g_]at ha hb;have hlc:lc.length=4:=je (rows:=[lc]) (esz:=4) (by show Bool.rec (motive:=λ_=>Bool) false true (lenG lc 4)=true;rw[c0]) lc (List.mem_singleton.2 rfl)
 obtain⟨e0,e1,e2,e3,rfl⟩:∃a b c e,lc=[a,b,c,e]:=by
  match lc,hlc with
  |[a,b,c,e],_=>exact⟨a,b,c,e,rfl⟩
 have hA:=Sl.lQ hw ha (by omega) (je c1);have hB:=Sl.lQ hw hb (by omega) (je c2);generalize hn:Nat.succ (Nat.add (lenK la) (lenK lb))=n at *;have hn5:n<100000:=Nat.le_of_ble_eq_true c5;have E1:=(Ext.refl H).add (.arr (lenN [e0,e1,e2,e3]) 1 [e0,e1,e2,e3] .nil);have h7:=B4.new [e0,e1,e2,e3] rfl H;have hn1:(H.add (.arr (lenN [e0,e1,e2,e3]) 1 [e0,e1,e2,e3] .nil)).next.toNat=H.next.toNat+1:=Pth.ab _
 have hrun:K2 [a,.agg [e0,e1,e2,e3],b] H=loopN Kt.no Fw 1000000 a b .snil H.next 0 (H.add (.arr (lenN [e0,e1,e2,e3]) 1 [e0,e1,e2,e3] .nil)):=by show Ip a b (.agg [e0,e1,e2,e3]) H=_;unfold Ip;rw[bJ,eF]
 generalize (H.add (.arr (lenN [e0,e1,e2,e3]) 1 [e0,e1,e2,e3] .nil))=H0 at *;obtain⟨H1,v1,f1,f2,f3,f4⟩:=Bk h7 (by omega) n 1000000 la lb [] out H0 a b .snil (by omega) ⟨Nat.le_refl _,λ_ _=>rfl⟩ (hA.ext E1) c3 (hB.ext E1) c4 .nil (by show 0+n<_;omega) ho;have hE:Ext (12*n+1) H H1:=⟨λq hq=>(f3.get q (by omega)).trans (E1.same q hq),by have:=f3.le;omega,by omega⟩
 have f2':Gr H.next.toNat 5 H1 v1 out:=by
  cases f2 with
  |nil=>exact .nil
  |sg k rows p q r s=>exact .sg k _ p (by omega) r s
 obtain⟨v2,H2,g1,g2⟩:=Bm (c:=12*n+1) f2' (show 0<5 by omega);rw[g1]at hf;cases hf;exact⟨v1,H1,_,hrun.trans f1,hE,g2⟩
theorem Bp{P:Program}{ω:Nat->Value}(hω:∀i,(ω i).oneCell'=true)(hm:P.follows .mixedOrders=true)(hT:TabOk P ω FN):OrcOk P ω 121 (natK λargs H=>consA args λa l=>consA l λc l=>consA l λb l=>nilA l (Jr a c b H)):=by refine iA hω hm hT (show Adq FN (key 121) K2 from Ac) ?_;intro args H v H' hw h;obtain⟨a,l,rfl,h1⟩:=aQ h;obtain⟨c,l,rfl,h2⟩:=aQ h1;obtain⟨b,l,rfl,h3⟩:=aQ h2;obtain⟨rfl,h4⟩:=cg h3;exact Bn hw h4
def Lh(x y:AVal)(H:AH):R:=FW (Iy x y) λv=>.ok v ⟨keyC H 9,H.m⟩
theorem rK{P:Program}{ω:Nat->Value}(hω:∀i,(ω i).oneCell'=true)(hm:P.follows .mixedOrders=true)(hT:TabOk P ω FN):OrcOk P ω 63 (natK (ar2 Lh)):=by refine iA hω hm hT (show Adq FN (key 63) GF from qK) ?_;intro args H v H' hw h;obtain⟨x,l,rfl,h1⟩:=aQ (show consA args (λa l=>consA l λb r=>nilA r (Lh a b H))=.ok v H' from h);obtain⟨y,l,rfl,h2⟩:=aQ h1;obtain⟨rfl,h3⟩:=cg h2;unfold Lh at h3;obtain⟨u,hu,h3⟩:=cB h3;cases h3;obtain⟨_,h4⟩:=rh hu;obtain⟨H1,h5,h6⟩:=h4 H;exact⟨v,H1,9,h5,h6,.none v⟩
end Go.Ex.KB
namespace Go.Ex
open Go
def or2(f g:AVal->AVal->AH->R)(x y:AVal)(H:AH):R:=R.rec (motive:=λ_=>R) (g x y H) (λv H=>.ok v H) (f x y H)
theorem ju{P:Program}{ω:Nat->Value}{f:Nat}{g1 g2:AVal->AVal->AH->R}(h1:OrcOk P ω f (natK (ar2 g1)))(h2:OrcOk P ω f (natK (ar2 g2))):OrcOk P ω f (natK (ar2 (or2 g1 g2))):=by
 intro args H v H' ρ w vals hone hr hg hv;obtain⟨x,l,rfl,e1⟩:=aQ (show consA args (λa l=>consA l λb r=>nilA r (or2 g1 g2 a b H))=.ok v H' from hone);obtain⟨y,l,rfl,e2⟩:=aQ e1;obtain⟨rfl,e3⟩:=cg e2;unfold or2 at e3;cases hf:g1 x y H with
 |ok u H2=>rw[hf]at e3;cases e3;exact h1 (show orc1 (natK (ar2 g1)) [x,y] H=_ from hf) hr hg hv
 |no=>rw[hf]at e3;exact h2 (show orc1 (natK (ar2 g2)) [x,y] H=_ from e3) hr hg hv
end Go.Ex
namespace Go.Ex.KB
def PV:=or2 (nQQ qaddK) Ga
def PW:=or2 (nQQ qsubK) Lh
end Go.Ex.KB
namespace Go.Ex
open Go Go.Proofs Go.BI
variable{ω:Nat->Value}
theorem BQ{b v:Q}(h:qNeg b=some v)(h1:b.num.n<18446744073709551616)(h2:b.den.n<18446744073709551616):v.num.n<18446744073709551616/\v.den.n<18446744073709551616:=by
 have hn:b.num.neg.n=b.num.n:=rfl;unfold qNeg qOver at h;rw[hn]at h;cases c1:(isZ b.num.n||isZ b.den.n)with
 |true=>rw[c1]at h;cases h;exact⟨by decide,by decide⟩
 |false=>
  rw[c1]at h;cases c2:b.den.s with
  |true=>rw[c2]at h;cases h
  |false=>
   rw[c2]at h;cases c3:Nat.beq b.den.n 1 with
   |true=>rw[c3]at h;cases h;exact⟨h1,h2⟩
   |false=>
    rw[c3]at h;cases c4:Nat.beq (Nat.gcd b.num.n b.den.n) 1 with
    |true=>rw[c4]at h;cases h;exact⟨h1,h2⟩
    |false=>rw[c4]at h;cases h;exact⟨Nat.lt_of_le_of_lt (Nat.div_le_self _ _) h1,Nat.lt_of_le_of_lt (Nat.div_le_self _ _) h2⟩
theorem BR:NatC Tryz.prog 63 (gQQ qSub):=l_ λs s' A A' m c m' c' a a' z z' t t' B B' k d k' d' b b' u u' w h h' hl hl' g g' gl gl' r hr=>by have hr:(qNeg ⟨⟨t,b,u⟩,⟨t',b',u'⟩⟩).bind (λc=>qAdd ⟨⟨s,a,z⟩,⟨s',a',z'⟩⟩ c)=some r:=hr;simp only[Option.bind_eq_some_iff]at hr;obtain⟨v,hv,hq⟩:=hr;obtain⟨h1,h2⟩:=BQ hv gl gl';exact yS s s' A A' m c m' c' a a' z z' t t' B B' k d k' d' b b' u u' w h h' g g' hl hl' gl gl' hv h1 h2 hq
theorem o69:OrcOk Tryz.prog ω 69 (natK (ar1 nOf)):=aS (aR ⟨_,Tryz.func69,by kernel_rfl,by kernel_rfl⟩ Bv) (b9 xB)
theorem o83:OrcOk Tryz.prog ω 83 (natK (ar1 (nJ normK))):=aS (aR ⟨_,Tryz.func83,by kernel_rfl,by kernel_rfl⟩ Bw) (b9 (pa xk))
theorem rR:OrcOk Tryz.prog ω 125 (natK (ar1 (nJ negK))):=aS (aR ⟨_,Tryz.func125,by kernel_rfl,by kernel_rfl⟩ Bx) (b9 (pa xm))
theorem rS:OrcOk Tryz.prog ω 119 (natK (ar1 nSg)):=aS (aR ⟨_,Tryz.func119,by kernel_rfl,by kernel_rfl⟩ By) (b9 xz)
theorem rT:OrcOk Tryz.prog ω 120 (natK (ar2 (nJJ addK))):=aS (aR ⟨_,Tryz.func120,by kernel_rfl,by kernel_rfl⟩ Bz) (b_ (iy o5))
theorem rU:OrcOk Tryz.prog ω 229 (natK (ar2 (nJJ subK))):=aS (aR ⟨_,Tryz.func229,by kernel_rfl,by kernel_rfl⟩ BA) (b_ (iy xj))
theorem o72:OrcOk Tryz.prog ω 72 (natK (ar2 (nJJ mulK))):=aS (aR ⟨_,Tryz.func72,by kernel_rfl,by kernel_rfl⟩ BB) (b_ (iy fp))
theorem rV:OrcOk Tryz.prog ω 154 (natK (ar2 (nJJ gcdK))):=aS (aR ⟨_,Tryz.func154,by kernel_rfl,by kernel_rfl⟩ BC) (b_ (iy xn))
theorem o52:OrcOk Tryz.prog ω 52 (natK (ar1 nqOf)):=aS (aR ⟨_,Tryz.func52,by kernel_rfl,by kernel_rfl⟩ BD) (b9 xC)
theorem o34:OrcOk Tryz.prog ω 34 (natK (ar1 nWh)):=aS (aR ⟨_,Tryz.func34,by kernel_rfl,by kernel_rfl⟩ BE) (b9 xD)
theorem o85:OrcOk Tryz.prog ω 85 (natK (ar1 (nQ ovrK))):=aS (aR ⟨_,Tryz.func85,by kernel_rfl,by kernel_rfl⟩ BF) (b9 (pc xt))
theorem o60:OrcOk Tryz.prog ω 60 (natK (ar1 (nQ qnegK))):=aS (aR ⟨_,Tryz.func60,by kernel_rfl,by kernel_rfl⟩ BG) (b9 (pc o8))
theorem rW:OrcOk Tryz.prog ω 122 (natK (ar1 nqSg)):=aS (aR ⟨_,Tryz.func122,by kernel_rfl,by kernel_rfl⟩ BH) (b9 xA)
theorem o88:OrcOk Tryz.prog ω 88 (natK (ar2 (nQQ qmulK))):=aS (aR ⟨_,Tryz.func88,by kernel_rfl,by kernel_rfl⟩ BJ) (b_ (kS xu))
theorem rX:OrcOk Tryz.prog ω 123 (natK (ar2 (nQQ qaddK))):=aS (aR ⟨_,Tryz.func123,by kernel_rfl,by kernel_rfl⟩ BK) (b_ (kS o_))
theorem o63:OrcOk Tryz.prog ω 63 (natK (ar2 (nQQ qsubK))):=aS (aR ⟨_,Tryz.func63,by kernel_rfl,by kernel_rfl⟩ BR) (b_ (kS xw))
theorem rY:OrcOk Tryz.prog ω 204 (natK (ar2 ngcd)):=aS (aR ⟨_,Tryz.func204,by kernel_rfl,by kernel_rfl⟩ BM) (b_ xE)
theorem rZ:OrcOk Tryz.prog ω 124 (natK (ar2 (nJJQ ovrK))):=aS (aR ⟨_,Tryz.func124,by kernel_rfl,by kernel_rfl⟩ BN) (b_ (xy eo))
theorem r5:OrcOk Tryz.prog ω 153 (natK (ar2 (nJJe exK))):=aS (aR ⟨_,Tryz.func153,by kernel_rfl,by kernel_rfl⟩ BO) (b_ (xx xp))
theorem r6:OrcOk Tryz.prog ω 179 (natK (ar1 nClo)):=aS (aR ⟨_,Tryz.func179,by kernel_rfl,by kernel_rfl⟩ BP) (b9 xF)
theorem iZ:OrcOk Tryz.prog ω 118 (natK (ar4 Ih)):=zF
end Go.Ex
namespace Go.Ex
open Go
variable{P:Program}{ω:Nat->Value}
def M7(θ:List (Pth×Pth))(t:TObj):AObj:=TObj.rec (motive:=λ_=>AObj) (λesz rows=>.arr esz (lenR rows) [] (FM (rows.map (ren1s θ)))) (λes=>instO θ (.mp es)) t
theorem CJ(θ:List (Pth×Pth))(rows:List (List AVal)):∀(j:Nat) (t:T8 (List AVal)),treeRows θ j rows t=tree0 j (rows.map (ren1s θ)) t:=by
 induction rows with
 |nil=>intro j t;rfl
 |cons r rows ih=>intro j t;exact ih _ _
theorem CM(θ:List (Pth×Pth))(t:TObj):M7 θ t=instO θ t:=by
 cases t with
 |arr esz rows=>show AObj.arr esz (lenR rows) [] (FM _)=AObj.arr esz (lenR rows) [] (treeRows θ 0 rows .nil);rw[lK,CJ]
 |mp es=>rfl
def Li(θ:List (Pth×Pth))(l:List (Pth×TObj))(H:AH)(k:AH->R):R:=List.rec (motive:=λ_=>AH->R) (λH=>k H) (λx _ ih H=>newHK H (M7 θ x.2) λ_ H=>ih H) l H
theorem CN(θ:List (Pth×Pth))(l:List (Pth×TObj))(k:AH->R):∀H,Li θ l H k=k (addAll θ l H):=by
 induction l with
 |nil=>intro H;rfl
 |cons x l ih=>intro H;obtain⟨c,t⟩:=x;show newHK H (M7 θ t) (λ_ H=>Li θ l H k)=_;rw[aX,ih,CM];rfl
def Lj(l:List (Pth×TObj))(p:Pth)(k:List (Pth×Pth)->R):R:=List.rec (motive:=λ_=>Pth->(List (Pth×Pth)->R)->R) (λ_ k=>k []) (λx _ ih p k=>ih (succF p) λθ=>k ((x.1,p)::θ)) l p k
theorem CP(l:List (Pth×TObj)):∀p k,Lj l p k=k (mkIds l p):=by
 induction l with
 |nil=>intro p k;rfl
 |cons x l ih=>intro p k;obtain⟨c,t⟩:=x;show Lj l (succF p) (λθ=>k ((c,p)::θ))=_;rw[ih,ff];rfl
def M8(o:Orc)(H:AH):R:=Option.rec (motive:=λ_=>R) (AH.rec (motive:=λ_=>R) (λn m=>Lj o.objs n λθ=>Li θ o.objs ⟨n,m⟩ λH=>.ok (ren3 θ o.v) H) H) (λ_=>.no) o.ex
theorem CQ{o:Orc}(hex:o.ex=none)(H:AH):M8 o H=give o H:=by
 unfold M8 give;rw[hex];cases H with
 |mk n m=>show Lj o.objs n (λθ=>Li θ o.objs ⟨n,m⟩ λH=>.ok (ren3 θ o.v) H)=_;rw[CP,CN]
def M9(t:TObj):AObj:=TObj.rec (motive:=λ_=>AObj) (λesz rows=>.arr esz (lenR rows) [] (FM rows)) (λes=>.mp es) t
theorem CR(t:TObj):M9 t=obj0 t:=by
 cases t with
 |arr esz rows=>show AObj.arr esz (lenR rows) [] (FM rows)=AObj.arr esz (lenR rows) [] (tree0 0 rows .nil);rw[lK]
 |mp es=>rfl
def M_(l:List (Pth×TObj))(H:AH)(k:AH->R):R:=List.rec (motive:=λ_=>AH->R) (λH=>k H) (λx _ ih H=>setHKc H x.1 (M9 x.2) λH=>ih H) l H
theorem CT(l:List (Pth×TObj))(k:AH->R):∀H,M_ l H k=k ⟨H.next,putObjs l H.m⟩:=by
 induction l with
 |nil=>intro H;rfl
 |cons x l ih=>intro H;obtain⟨c,t⟩:=x;show setHKc H c (M9 t) (λH=>M_ l H k)=_;rw[dD,ih,CR];rfl
def Na(q q':Pth)(k:List AVal->AH->R)(o:Orc)(pre:List (Pth×TObj)):R:=M_ pre ⟨q',(roHeap q o.ro).m⟩ λH=>k o.args H
theorem CU(q q':Pth)(k:List AVal->AH->R)(o:Orc)(pre:List (Pth×TObj)):Na q q' k o pre=k o.args (preH q q' o pre):=by unfold Na preH;rw[CT]
def IA(kn:Kn)(args:List AVal)(H:AH):R:=Bool.rec (motive:=λ_=>R) .no (M8 kn.o H) (preFits kn.o kn.pre (findKs args H kn.hints []) args H)
def FZ(L:List (Nat×Kn))(code:List AVal->AH->Nat)(args:List AVal)(H:AH):R:=fz (code args H) λc=>List.rec (motive:=λ_=>R) .no (λp _ ih=>Bool.rec (motive:=λ_=>R) ih (R.rec (motive:=λ_=>R) ih (λv H'=>.ok v H') (IA p.2 args H)) (Nat.beq p.1 c)) L
def Hf(q q':Pth)(k:List AVal->AH->R)(kn:Kn):Bool:=Option.rec (motive:=λ_=>Bool) (preOk q q' kn.o kn.pre&&preRes kn.o kn.pre (resKn kn) (Na q q' k kn.o kn.pre)) (λ_=>false) kn.o.ex
theorem CV(q q':Pth)(k:List AVal->AH->R)(kn:Kn):Hf q q' k kn=knOk q q' k kn:=by unfold Hf knOk;rw[CU]
theorem CW{kn:Kn}(hex:kn.o.ex=none)(args:List AVal)(H:AH):IA kn args H=tryKn kn args H:=by unfold IA tryKn;rw[CQ hex]
theorem CX{L:List (Nat×Kn)}(hex:∀p∈L,p.2.o.ex=none)(code:List AVal->AH->Nat)(args:List AVal)(H:AH):FZ L code args H=natKn L code args H:=by
 unfold FZ natKn;rw[aN,aN];generalize code args H=c
 induction L with
 |nil=>rfl
 |cons p L ih=>
  have ih:=ih λx hx=>hex x (List.mem_cons_of_mem _ hx)
  have h1:=CW (hex p (List.mem_cons_self ..)) args H;show Bool.rec (motive:=λ_=>R) (List.rec (motive:=λ_=>R) .no (λp _ ih=>Bool.rec (motive:=λ_=>R) ih (R.rec (motive:=λ_=>R) ih (λv H'=>.ok v H') (IA p.2 args H)) (Nat.beq p.1 c)) L) (R.rec (motive:=λ_=>R) (List.rec (motive:=λ_=>R) .no (λp _ ih=>Bool.rec (motive:=λ_=>R) ih (R.rec (motive:=λ_=>R) ih (λv H'=>.ok v H') (IA p.2 args H)) (Nat.beq p.1 c)) L) (λv H'=>.ok v H') (IA p.2 args H)) (Nat.beq p.1 c)=_;rw[ih,h1]
theorem dt{T:T8 CFn}(hω:∀i,(ω i).oneCell'=true)(hm:P.follows .mixedOrders=true)(hT:TabOk P ω T){f:Nat}{k:List AVal->AH->R}(hA:Adq T (key f) k){q:Pth}(hq:q=key P.globals.size){L:List (Nat×Kn)}{code:List AVal->AH->Nat}(hL:∀p∈L,∃q',Hf q q' k p.2=true):OrcOk P ω f (natK (FZ L code)):=by
 have hex:∀p∈L,p.2.o.ex=none:=λp hp=>by
  obtain⟨q',h⟩:=hL p hp;cases he:p.2.o.ex with
  |none=>rfl
  |some x=>unfold Hf at h;rw[he]at h;cases h
 have h:OrcOk P ω f (natK (natKn L code)):=CI (code:=code) hω hm hT hA hq (L:=L) λp hp=>by obtain⟨q',h⟩:=hL p hp;exact⟨q',by rw[<-CV];exact h⟩
 intro args H v H' ρ w vals hone;refine h ?_;rw[zG]at hone⊢;rw[<-CX hex];exact hone
end Go.Ex
namespace Go.Ex.KP
open Go Go.Ex
def i(n:Nat):AVal:=.int .i64 (.ofNat n)
def j(n:Nat):AVal:=.int .i64 (.negSucc n)
def e(n:Nat):List AVal:=[i n]
def rz:List AVal:=[.bool false,.snil,.bool false,.mag 1]
def ry:List AVal:=[.bool false,.se,.bool false,.mag 1]
def rp(n:Nat):List AVal:=[.bool false,.mag n,.bool false,.mag 1]
def rn(n:Nat):List AVal:=[.bool true,.mag n,.bool false,.mag 1]
def rf(n m:Nat):List AVal:=[.bool false,.mag n,.bool false,.mag m]
def rg(n m:Nat):List AVal:=[.bool true,.mag n,.bool false,.mag m]
def jz:List AVal:=[.bool false,.snil]
def jp(n:Nat):List AVal:=[.bool false,.mag n]
def jn(n:Nat):List AVal:=[.bool true,.mag n]
def sv:List Nat->List (List AVal)
 |0::_::l=>ry::sv l
 |n::1::l=>rp n::rn n::sv l
 |n::d::l=>rf n d::rg n d::sv l
 |_=>[]
def V(l:List Nat):List (List AVal):=rz::rp 1::rn 1::sv l
def jr:Int->List AVal
 |.ofNat 0=>jz
 |.ofNat (n+1)=>jp (n+1)
 |.negSucc n=>jn (n+1)
def kk(n:Nat):Pth:=key n
def PX:List (List AVal)->Nat->List AVal
 |[],_=>[]
 |a::_,0=>a
 |_::l,n+1=>PX l n
def pk(B:Nat)(vs:List (List AVal)):Nat->Nat->List (List AVal)
 |0,_=>[]
 |n+1,N=>PX vs (Nat.mod N B)::pk B vs n (Nat.div N B)
structure Md where
 n:Nat
 k:Nat
 d:Int
 fr:List Nat
 w:Nat
 r:Nat
 vs:List (List AVal)
 N:Nat
def parts(B:Nat)(vs:List (List AVal))(w:Nat):Nat->Nat->List TObj
 |0,_=>[]
 |r+1,N=>.arr 4 (pk B vs w N)::parts B vs w r (Nat.div N (Nat.pow B w))
def Nb(b:Nat):List TObj->List (Pth×TObj)
 |[]=>[]
 |t::l=>(kk b,t)::Nb (b+1) l
def Nc(w:Nat):Nat->Nat->List (List AVal)
 |_,0=>[]
 |b,r+1=>[.sl (kk b) 0 w w]::Nc w (b+1) r
def PY:List Nat->Nat
 |[]=>0
 |_::l=>PY l+1
def Js(b:Nat)(M:Md):List (Pth×TObj):=match M.fr with
 |[]=>(kk b,.arr 5 [[i M.n,i M.k,.int .i64 M.d,.snil,.sl (kk (b+1)) 0 M.r M.r]])::(kk (b+1),.arr 1 (Nc M.w (b+2) M.r))::Nb (b+2) (parts M.vs.length M.vs M.w M.r M.N)
 |l=>(kk b,.arr 5 [[i M.n,i M.k,.int .i64 M.d,.sg (kk (b+1)) 0 (PY l) 1,.sl (kk (b+2)) 0 M.r M.r]])::(kk (b+1),.arr 1 (l.map e))::(kk (b+2),.arr 1 (Nc M.w (b+3) M.r))::Nb (b+3) (parts M.vs.length M.vs M.w M.r M.N)
def Ju:Nat->Nat->List (Nat×Nat×Nat)
 |_,0=>[]
 |j,r+1=>(j+1,j,0)::Ju (j+1) r
def Jv(a:Nat)(M:Md):List (Nat×Nat×Nat):=match M.fr with
 |[]=>(0,a,0)::(1,0,4)::Ju 0 M.r
 |_=>(0,a,0)::(1,0,3)::(2,0,4)::Ju 0 M.r
def GK(b:Nat)(M:Md):Nat:=match M.fr with
 |[]=>b+2+M.r
 |_=>b+3+M.r
structure Mt where
 r:Nat
 c:Nat
 vs:List (List AVal)
 N:Nat
def Mt.objs(m:Mt)(b:Nat):List (Pth×TObj):=match m.r*m.c with
 |0=>[]
 |z+1=>[(kk b,.arr 4 (pk m.vs.length m.vs (z+1) m.N))]
def Mt.sl(m:Mt)(b:Nat):AVal:=match m.r*m.c with
 |0=>.snil
 |z+1=>.sg (kk b) 0 (z+1) 4
def Mt.hs(m:Mt)(h:Nat×Nat×Nat):List (Nat×Nat×Nat):=match m.r*m.c with
 |0=>[]
 |_=>[h]
def ro0:List (Pth×Nat×Nat×List AVal):=[(.e,64,1,KD.tabL)]
def kA(M:Md):Kn:=⟨⟨[.agg [i M.n,i M.k,.int .i64 M.d]],ro0,Js 0 M,.tup [.ptr (kk 0) 0,i 0],none,none⟩,[],[],Jv 0 M⟩
def kB(M:Md)(S:Mt):Kn:=⟨⟨[.ptr (kk 2) 0,i 1],ro0,S.objs 0,.tup [.agg [i M.w,i S.r,i S.c,S.sl 0],i 0],none,none⟩,Js 2 M,Jv 0 M,S.hs (0,0,3)⟩
def kC(M L:Md)(t:Nat)(R:Mt):Kn:=⟨⟨[.ptr (kk 2) 0,.ptr (kk (GK 2 M)) 0,i t],ro0,R.objs 0,.tup [.agg [i R.r,i R.c,R.sl 0],i 0],none,none⟩,Js 2 M++Js (GK 2 M) L,Jv 0 M++Jv 1 L,R.hs (0,0,2)⟩
def kD(M:Md)(p:Nat)(S R:Mt):Kn:=⟨⟨[.ptr (kk 2) 0,i p,.agg [i M.w,i S.r,i S.c,S.sl (GK 2 M)]],ro0,R.objs 0,.tup [.agg [i R.r,i R.c,R.sl 0],i 0],none,none⟩,Js 2 M++S.objs (GK 2 M),Jv 0 M++S.hs (0,2,3),R.hs (0,0,2)⟩
def Nd(n k d:Int):Nat:=Int.toNat (n*1000000+k*1000+d+500)
def PZ:List AVal->Nat
 |.int _ n::.int _ k::.int _ d::_=>Nd n k d
 |_=>0
def P0(args:List AVal)(_:AH):Nat:=match args with
 |.agg l::_=>PZ l
 |_=>0
def SJ:AObj->Nat
 |.arr _ _ d els=>PZ (elem 0 d els)
 |_=>0
def Ng(args:List AVal)(H:AH):Nat:=match args with
 |.ptr id _::_=>SJ (H.m.get .dead id)
 |_=>0
def P1:AVal->Nat
 |.mag n=>n%1000
 |_=>0
def P2(H:AH)(id:Pth)(len:Nat):Nat:=match H.m.get .dead id with
 |.arr _ n d els=>len*1000000+((List.range (min n 4)).foldl (λa r=>a+(r+1)*P1 (nthV (elem r d els) 1)) 0)
 |_=>0
def P3(H:AH):AVal->Nat
 |.sl id _ len _=>P2 H id len
 |.sg id _ len _=>P2 H id len
 |_=>0
def P4(args:List AVal)(H:AH):Nat:=match args with
 |.agg [_,_,s]::_=>P3 H s
 |s::_=>P3 H s
 |[]=>0
def SK(_:List AVal)(_:AH):Nat:=0
def eL:Nat->List (List Int×Nat)->List (List AVal)
 |_,[]=>[]
 |k,(f,e)::l=>[.sl (kk k) 0 f.length f.length,i e]::eL (k+1) l
def eA:Nat->List (List Int×Nat)->List (Pth×TObj)
 |_,[]=>[]
 |k,(f,_)::l=>(kk k,.arr 2 (f.map jr))::eA (k+1) l
def eO:List (List Int×Nat)->List (Pth×TObj)
 |[]=>[]
 |l=>(kk 0,.arr 2 (eL 1 l))::eA 1 l
def eS:List (List Int×Nat)->AVal
 |[]=>.snil
 |l=>.sg (kk 0) 0 l.length 2
def eH:List (List Int×Nat)->List (Nat×Nat×Nat)
 |[]=>[]
 |l=>(0,1,0)::Ju 0 l.length
def kE(P:List Int)(l:List (List Int×Nat)):Kn:=⟨⟨[.sl (kk 2) 0 P.length P.length],ro0,eO l,.tup [.agg [.bool false,.mag 1],eS l,i 0],none,none⟩,[(kk 2,.arr 2 (P.map jr))],[(0,0,0)],eH l⟩
def wE:Nat->Nat->List (List AVal)
 |0,_=>[]
 |n+1,b=>[.sl (kk b) 0 0 0]::wE n (b+1)
def wA:Nat->Nat->List (Pth×TObj)
 |0,_=>[]
 |n+1,b=>(kk b,.arr 4 [])::wA n (b+1)
def wS:Nat->List (Nat×List (List AVal))->List (List AVal)
 |_,[]=>[]
 |b,(n,r)::l=>[.sl (kk b) 0 n r.length]::wS (b+1) l
def wB:Nat->List (Nat×List (List AVal))->List (Pth×TObj)
 |_,[]=>[]
 |b,(_,r)::l=>(kk b,.arr 4 r)::wB (b+1) l
def kF(r c:Nat)(R:List (List AVal))(P:List Int)(l:List (Nat×List (List AVal))):Kn:=
 ⟨⟨[.agg [i r,i c,.sl (kk 2) 0 R.length R.length],.sl (kk 3) 0 P.length P.length],ro0,(kk 0,.arr 2 (P.map jr))::(kk 1,.arr 1 (wE r 2++wS (r+2) l))::(wA r 2++wB (r+2) l),
  .tup [.agg [.sl (kk 0) 0 P.length P.length],.sg (kk 1) r l.length 1,i 0],none,none⟩,[(kk 2,.arr 4 R),(kk 3,.arr 2 (P.map jr))],[(0,0,2),(0,1,0)],(0,0,0)::(0,1,0)::Ju 0 (r+l.length)⟩
def cQ:Nat->List (List AVal)->Nat
 |_,[]=>0
 |r,a::l=>r*P1 (nthV a 1)+cQ (r+1) l
def cR(l:List (List AVal)):Nat:=l.length*1000000+cQ 1 (l.take 4)
def cM(M:Md):Nat:=Nd M.n M.k M.d
def gA(M:Md):Nat×Kn:=(cM M,kA M)
def gB:Md×Mt->Nat×Kn
 |(M,S)=>(cM M,kB M S)
def gC:Md×Md×Nat×Mt->Nat×Kn
 |(M,L,t,R)=>(cM M,kC M L t R)
def gD:Md×Nat×Mt×Mt->Nat×Kn
 |(M,p,S,R)=>(cM M,kD M p S R)
def gE:List Int×List (List Int×Nat)->Nat×Kn
 |(P,l)=>(cR (P.map jr),kE P l)
def gF:Nat×Nat×List (List AVal)×List Int×List (Nat×List (List AVal))->Nat×Kn
 |(r,c,R,P,l)=>(cR R,kF r c R P l)
def gL:Nat×Nat×Int->Nat×Kn
 |(n,k,d)=>(Nd n k d,⟨⟨[.agg [i n,i k,.int .i64 d]],ro0,[],.bool false,none,none⟩,[],[],[]⟩)
end Go.Ex.KP
namespace Go.Ex.KV
open Go Go.Ex
def Jw:R->Bool
 |.ok (.bool b) _=>b
 |_=>false
def P5(s:Nat×Nat×Int):AVal:=.agg [.int .i64 (.ofNat s.1),.int .i64 (.ofNat s.2.1),.int .i64 s.2.2]
end Go.Ex.KV
