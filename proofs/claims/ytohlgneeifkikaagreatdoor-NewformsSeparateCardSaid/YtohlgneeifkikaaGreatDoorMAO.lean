/- A part of the executor of abstract values, its soundness over the model, and what functions of the program reckon. Conditions: those stated at each theorem. -/
import Derived.Deep.RegionWith
import Derived.Test.YtohlgneeifkikaaGreatDoorMAN
set_option maxRecDepth 1000000
set_option maxHeartbeats 0
set_option linter.unusedVariables false
noncomputable section
namespace Go.BI
open Go Go.RowKit Go.Proofs
structure TRel(w:World)(a b:J)(Va Vb:Value)(n:Nat)(res:Nat->J)(i:Value)(wr:World):Prop where
 is:∃k xs,k<=n+1/\i=.int .i64 k/\IBlk w.heap.size wr 50 (w.heap.size+1+1) xs ((List.range k).map res++List.replicate (n+1-k) J.null)/\Env w [(#[.bool a.s,Va],50),(#[.bool b.s,Vb],50)] wr
def MakesInts(js:List J)(w:World)(e:Ending)(w':World):Prop:=(∃g xs,e=.returned (.slice (some ⟨g,0,none⟩) js.length js.length)/\w.heap.size<=g/\IBlk w.heap.size w' 50 g xs js)/\RowKit.Below w.heap.size w w'
theorem yZ{a b:J}{l:List J}{k:Nat}{r:J}(hk:k<l.length)(h:tEl a b l (k+1)=some r):∃x,jMul a l[k]=some x/\tAdd b l (k+1) x=some r:=by have h:(match l[k]? with|some p=>jMul a p|none=>none).bind (tAdd b l (k+1))=some r:=h;rw[List.getElem?_eq_getElem hk]at h;simpa only[Option.bind_eq_some_iff]using h
theorem pY{b:J}{l:List J}{i:Nat}{x r:J}(hi:i<l.length)(h:tAdd b l i x=some r):∃y,jMul b l[i]=some y/\jAdd x y=some r:=by unfold tAdd at h;rw[List.getElem?_eq_getElem hi]at h;simp only[Option.bind_eq_some_iff]at h;exact h
theorem pZ{b:J}{l:List J}{i:Nat}{x r:J}(hi:¬i<l.length)(h:tAdd b l i x=some r):x=r:=by unfold tAdd at h;rw[List.getElem?_eq_none (by omega)]at h;simpa using h
theorem p9(A:Option Addr)(n c:Nat)(l:List J)(a b:J)(A1 A2:Option Addr)(m1 c1 m2 c2:Nat)(w:World)(hl:Ints w A n c l)(ha:Num w (.slice A1 m1 c1) a.n a.z)(hb:Num w (.slice A2 m2 c2) b.n b.z)(_hla:a.n<18446744073709551616)(_hlb:b.n<18446744073709551616)(res:Nat->J)(hres:∀i,i<=n->tEl a b l i=some (res i)):Calls Tryz.prog 207 #[.slice A n c,.agg #[.bool a.s,.slice A1 m1 c1],.agg #[.bool b.s,.slice A2 m2 c2]] w (MakesInts ((List.range (n+1)).map res) w):=by
 have hmk:∀w:World,(Instr.makeSlice 31 (.int .i64 ((n:Int)+1)) (.int .i64 ((n:Int)+1))).run Tryz.prog w=.ok (.slice (some ⟨w.heap.size,0,none⟩) (n+1) (n+1)) (w.alloc (.cells (icells (List.replicate (n+1) (false,.slice none 0 0))).toArray 50)):=λw=>pW w (n+1) (by have:=hl.max;omega)
 have hmax:=hl.max;have HL:=Lib.hid hl;clear hl;have HA:=Lib.hid ha;clear ha;have HB:=Lib.hid hb;clear hb;have HR:=Lib.hid hres;clear hres;go_enter Tryz.func207,Tryz.ntmps207;go_wp2;clear hmk
 go_loopw [16] (λi wr=>TRel w a b (.slice A1 m1 c1) (.slice A2 m2 c2) n res i wr) (λi _=>n+1-(intOf i).toNat)
 case atStart=>exact⟨⟨0,_,Nat.zero_le _,rfl,by have h:=IBlk.pX ((w.alloc (.cells #[.bool a.s,.slice A1 m1 c1] 50)).alloc (.cells #[.bool b.s,.slice A2 m2 c2] 50)) 50 (n+1) w.heap.size;rw[aK,aK]at h;exact h,Env.two.step (ax _ _)⟩⟩
 case round=>
  obtain⟨k,xs,hk,rfl,hblk,hE⟩:=hrel.is;have HE:=Lib.hid hE;have HBLK:=Lib.hid hblk;clear hE hblk hrel;by_cases hkn:k<n+1
  .cases k with
   |zero=>
    have HXR:Hid (tAdd b l 0 (jOf 0)=some (res 0)):=Lib.hid (HR.out 0 (by omega));have HXLIM:Hid ((jOf 0).n<18446744073709551616):=Lib.hid (by decide);go_wp2_with fail;refine(a_ 0 _ (by decide) (by decide)).mono ?_;rintro e w1 ⟨⟨A0,m0,c0,rfl,hN0⟩,hB0⟩;have HE1:=Lib.hid (HE.out.step hB0);have HB1:=Lib.hid hB0;have HX:=Lib.hid (Bx2.new w1 50 (.bool (jOf 0).s) (.slice A0 m0 c0));have HG:Hid (w.heap.size+3<=w1.heap.size):=Lib.hid (by have h1:=HBLK.out.lt;have h2:=hB0.size;omega);have HK3:Hid (∀fs,Hold w1 fs w1->Hold w1 fs (w1.alloc (.cells #[.bool (jOf 0).s,.slice A0 m0 c0] 50))):=Lib.hid λfs h=>h.alloc _
    have HX3:=HX;have HN3:Hid (NumN wr.heap.size (w1.alloc (.cells #[.bool (jOf 0).s,.slice A0 m0 c0] 50)) (.slice A0 m0 c0) (jOf 0).n (jOf 0).z):=Lib.hid (hN0.below (ax _ _));clear hN0 hB0 HX;by_cases hlast:0<n
    .obtain⟨bP,oP,eA,hltP,hPI⟩:=HL.out.at_ hlast;subst eA;have HPI:=Lib.hid hPI;clear hPI;have hkl2:0<l.length:=by rw[HL.out.len];omega
     obtain⟨y,hy,hxy⟩:=pY hkl2 HXR.out;have HYE:=Lib.hid hy;have HXY:=Lib.hid hxy;have HLX:=Lib.hid HXLIM.out;have HLY:=Lib.hid (dK hy).2.2;obtain⟨AQ,mQ,cQ,q0,q1,hQn,hQl⟩:=(HPI.out (0) hkl2).is;have HQN:=Lib.hid hQn;have hlt1:((0:Int)<(n:Int)):=by omega
     clear hy hxy hQn hQl
     have HH2:Hid (Hold w1 [(w.heap.size+1,0,.bool b.s),(w.heap.size+1,1,.slice A2 m2 c2),(bP,oP,.bool l[0].s),(bP,oP+1,.slice AQ mQ cQ)] w1):=Lib.hid (Hold.of4 (by have:=HG.out;omega) (by have h1:=HE.out.below.size;have h2:=HB1.out.size;omega) (HE1.out.cell 1 0 rfl rfl) (HE1.out.cell 1 1 rfl rfl)
      ((HB1.out.cell (p:=⟨bP,oP,none⟩) (by show bP<_;have h1:=HE.out.below.size;omega)).trans ((HE.out.below.cell (p:=⟨bP,oP,none⟩) hltP).trans q0))
      ((HB1.out.cell (p:=⟨bP,oP+1,none⟩) (by show bP<_;have h1:=HE.out.below.size;omega)).trans ((HE.out.below.cell (p:=⟨bP,oP+1,none⟩) hltP).trans q1)))
     clear q0 q1;go_wp2_with fail;have hH:=(HK3.out _ HH2.out).drew;have hX:Bx2 (w1.alloc (.cells #[.bool (jOf 0).s,.slice A0 m0 c0] 50)).drew w1.heap.size 50 (.bool (jOf 0).s) (.slice A0 m0 c0):=HX3.out;have hN:NumN wr.heap.size (w1.alloc (.cells #[.bool (jOf 0).s,.slice A0 m0 c0] 50)).drew (.slice A0 m0 c0) (jOf 0).n (jOf 0).z:=HN3.out.below (RowKit.Below.refl _ _).drew;obtain⟨x0,x1,f0,f1⟩:=hX.facts;obtain⟨_,s0,s1,s2,s3⟩:=Hold.dL hH
     go_region_with
      (first
       |(go_at_call 72;refine(ew b.s l[0].s A2 AQ m2 c2 mQ cQ b.n l[0].n b.z l[0].z _ (HB.out.below (Env.below (Env.step HE1.out (Hold.below hH)))) (HQN.out.below ((HE1.out.below).trans ((Hold.below hH).mono (by have:=HG.out;omega)))) HYE.out).mono ?_;rintro e w4 ⟨⟨A5,m5,c5,rfl,hN5⟩,hB5⟩;have hH5:=Hold.step hH hB5;have hX5:=Bx2.step hX hB5;have hN':=NumN.below hN hB5;obtain⟨y0,y1,e0,e1⟩:=hX5.facts)
       |(go_at_call 120;refine(iM (jOf 0).s y.s A0 A5 m0 c0 m5 c5 (jOf 0).n y.n (jOf 0).z y.z _ hN'.num hN5.num HLX.out HLY.out HXY.out).mono ?_;rintro e w5 ⟨⟨A6,m6,c6,rfl,hN6⟩,hB6⟩;have hH6:=Hold.step hH5 hB6;have hX6:=Bx2.step hX5 hB6;obtain⟨z0,z1,e2,e3⟩:=hX6.facts))
     all_goals
      have HK7:Hid (∀fs,Hold w1 fs w1->Hold w1 fs ((w5.setCell ⟨w1.heap.size,0,none⟩ (.bool (res (0)).s)).setCell ⟨w1.heap.size,1,none⟩ (.slice A6 m6 c6))):=Lib.hid λfs h=>(((((HK3.out fs h).drew).step hB5).step hB6).set (Nat.le_refl _) 0 _).set (Nat.le_refl _) 1 _
      have HX7:=Lib.hid (Bx2.set hX6 (.bool (res (0)).s) (.slice A6 m6 c6));have HN7:Hid (NumN wr.heap.size ((w5.setCell ⟨w1.heap.size,0,none⟩ (.bool (res (0)).s)).setCell ⟨w1.heap.size,1,none⟩ (.slice A6 m6 c6)) (.slice A6 m6 c6) (res (0)).n (res (0)).z):=Lib.hid ((hN6.only (b:=w1.heap.size) (Nat.lt_of_lt_of_le hX.lt hB5.size) (((Only.refl _ _).set _ _).set _ _)).mono (Nat.le_trans HB1.out.size (Nat.le_trans (Nat.le_of_lt hX.lt) hB5.size)));clear s0 s1 s2 s3 hH hX hN hH5 hX5 hN' hH6 hX6 x0 x1 f0 f1 y0 y1 e0 e1 z0 z1 e2 e3 hN5 hB5 hN6 hB6;clear HH2
      revert HK7 HX7 HN7
      generalize ((w5.setCell ⟨w1.heap.size,0,none⟩ (.bool (res (0)).s)).setCell ⟨w1.heap.size,1,none⟩ (.slice A6 m6 c6))=w7;intro HK7 HX7 HN7;have HKB:Hid (RowKit.Below wr.heap.size wr w7):=Lib.hid (HB1.out.trans ((Hold.below (HK7.out [] (Hold.start (λ_ h=>(by cases h)) (λ_ h=>(by cases h))))).mono HB1.out.size));have HO:=Lib.hid (HBLK.out.below HKB.out);obtain⟨so,vo,o0,o1,g0,g1⟩:=HO.out.facts (i:=0) (by simp<;>omega);simp only[Nat.zero_mul,Nat.zero_add]at o0 o1 g0 g1;obtain⟨x0,x1,f0,f1⟩:=HX7.out.facts;have hix5:(0:Int)<=((0:Nat):Int):=Int.natCast_nonneg _;have hix6:((0:Nat):Int)<((n+1:Nat):Int):=by omega
      go_wp2
      go_roundw
      case rel=>
       refine⟨0+1,xs.set (0) ((res (0)).s,.slice A6 m6 c6),by omega,by go_num,?_,?_⟩
       .exact(HBLK.out.put HKB.out HE.out.below.size HN7.out (0)).cast (iQ res J.null (by omega))
       .exact((HE.out.step HKB.out).set (b:=w.heap.size+1+1) (by simp) _ _).set (b:=w.heap.size+1+1) (by simp) _ _
      case measure=>simp[intOf]<;>omega
    .have HXQ:=Lib.hid (p:=jOf 0=res 0) (pZ (by rw[HL.out.len];exact hlast) HXR.out);have hlt1:¬((0:Int)<(n:Int)):=by omega
     have HKB:Hid (RowKit.Below wr.heap.size wr (w1.alloc (.cells #[.bool (jOf 0).s,.slice A0 m0 c0] 50))):=Lib.hid (HB1.out.trans ((Hold.below (HK3.out [] (Hold.start (λ_ h=>(by cases h)) (λ_ h=>(by cases h))))).mono HB1.out.size));have HO:=Lib.hid (HBLK.out.below HKB.out);obtain⟨so,vo,o0,o1,g0,g1⟩:=HO.out.facts (i:=0) (by simp<;>omega);simp only[Nat.zero_mul,Nat.zero_add]at o0 o1 g0 g1;obtain⟨x0,x1,f0,f1⟩:=HX3.out.facts;have hix5:(0:Int)<=((0:Nat):Int):=Int.natCast_nonneg _;have hix6:((0:Nat):Int)<((n+1:Nat):Int):=by omega
     go_wp2
     go_roundw
     case rel=>
      refine⟨0+1,xs.set (0) ((jOf 0).s,.slice A0 m0 c0),by omega,by go_num,?_,?_⟩
      .exact(HBLK.out.put HKB.out HE.out.below.size HN3.out (0)).cast (by rw[HXQ.out];exact iQ res J.null (by omega))
      .exact((HE.out.step HKB.out).set (b:=w.heap.size+1+1) (by simp) _ _).set (b:=w.heap.size+1+1) (by simp) _ _
     case measure=>simp[intOf]<;>omega
   |succ k=>
    obtain⟨bP,oP,eA,hltP,hPI⟩:=HL.out.at_ (show 0<n by omega);subst eA;have HPI:=Lib.hid hPI;clear hPI;have hkl:k<l.length:=by rw[HL.out.len];omega
    obtain⟨x,hx,hxr⟩:=yZ hkl (HR.out (k+1) (by omega));have HXE:=Lib.hid hx;have HXR:=Lib.hid hxr;have HXLIM:=Lib.hid (dK hx).2.2;obtain⟨AP,mP,cP,p0,p1,hPn,hPl⟩:=(HPI.out k hkl).is;have HPN:=Lib.hid hPn;have hix0:(0:Int)<=(k:Int):=Int.natCast_nonneg k;have hix1:(k:Int)<(n:Int):=by omega
    have hix3:IntKind.i64.wrap (k:Int)=(k:Int):=by rw[IntKind.wrap_i64];omega
    clear hx hxr hPn hPl;go_wp2_with fail;refine(a_ 0 _ (by decide) (by decide)).mono ?_;rintro e w1 ⟨⟨A0,m0,c0,rfl,hN0⟩,hB0⟩;have HE1:=Lib.hid (HE.out.step hB0);have HB1:=Lib.hid hB0;have HX:=Lib.hid (Bx2.new w1 50 (.bool (jOf 0).s) (.slice A0 m0 c0));have HG:Hid (w.heap.size+3<=w1.heap.size):=Lib.hid (by have h1:=HBLK.out.lt;have h2:=hB0.size;omega)
    have HH1:Hid (Hold w1 [(w.heap.size,0,.bool a.s),(w.heap.size,1,.slice A1 m1 c1),(bP,oP+k*2,.bool l[k].s),(bP,oP+k*2+1,.slice AP mP cP)] w1):=Lib.hid (Hold.of4 (by have:=HG.out;omega) (by have h1:=HE.out.below.size;have h2:=HB1.out.size;omega) (HE1.out.cell 0 0 rfl rfl) (HE1.out.cell 0 1 rfl rfl)
     ((HB1.out.cell (p:=⟨bP,oP+k*2,none⟩) (by show bP<_;have h1:=HE.out.below.size;omega)).trans ((HE.out.below.cell (p:=⟨bP,oP+k*2,none⟩) hltP).trans p0))
     ((HB1.out.cell (p:=⟨bP,oP+k*2+1,none⟩) (by show bP<_;have h1:=HE.out.below.size;omega)).trans ((HE.out.below.cell (p:=⟨bP,oP+k*2+1,none⟩) hltP).trans p1)))
    clear p0 p1;go_wp2_with fail;have hH:=(HH1.out.alloc (.cells #[.bool (jOf 0).s,.slice A0 m0 c0] 50)).drew;have hX:Bx2 (w1.alloc (.cells #[.bool (jOf 0).s,.slice A0 m0 c0] 50)).drew w1.heap.size 50 (.bool (jOf 0).s) (.slice A0 m0 c0):=HX.out
    go_region_held3 (λw'=>Hold w1 [(w.heap.size,0,.bool a.s),(w.heap.size,1,.slice A1 m1 c1),(bP,oP+k*2,.bool l[k].s),(bP,oP+k*2+1,.slice AP mP cP)] w'/\w'.cell? ⟨w.heap.size,0,none⟩=some (.bool a.s)/\w'.cell? ⟨w.heap.size,1,none⟩=some (.slice A1 m1 c1)/\w'.cell? ⟨bP,oP+k*2,none⟩=some (.bool l[k].s)/\w'.cell? ⟨bP,oP+k*2+1,none⟩=some (.slice AP mP cP))
     (first|exact Hold.dL (by assumption)|exact Hold.yT (by assumption))
     (first
      |(go_at_call 72;refine(ew a.s l[k].s A1 AP m1 c1 mP cP a.n l[k].n a.z l[k].z _ (HA.out.below (Env.below (Env.step HE1.out (Hold.below hH)))) (HPN.out.below ((HE1.out.below).trans ((Hold.below hH).mono (by have:=HG.out;omega)))) HXE.out).mono ?_;rintro e w2 ⟨⟨A3,m3,c3,rfl,hN3⟩,hB3⟩;have hH3:=Hold.step hH hB3;have hX3:=Bx2.step hX hB3;obtain⟨x0,x1,f0,f1⟩:=hX3.facts))
    have HK3:Hid (∀fs,Hold w1 fs w1->Hold w1 fs ((w2.setCell ⟨w1.heap.size,0,none⟩ (.bool x.s)).setCell ⟨w1.heap.size,1,none⟩ (.slice A3 m3 c3))):=Lib.hid λfs h=>((((h.alloc _).drew).step hB3).set (Nat.le_refl _) 0 _).set (Nat.le_refl _) 1 _
    have HX3:=Lib.hid (Bx2.set hX3 (.bool x.s) (.slice A3 m3 c3));have HN3:Hid (NumN wr.heap.size ((w2.setCell ⟨w1.heap.size,0,none⟩ (.bool x.s)).setCell ⟨w1.heap.size,1,none⟩ (.slice A3 m3 c3)) (.slice A3 m3 c3) x.n x.z):=Lib.hid ((hN3.only (b:=w1.heap.size) (by show _<(w1.alloc _).heap.size;rw[aK];omega) (((Only.refl _ _).set _ _).set _ _)).mono (by show _<=(w1.alloc _).heap.size;rw[aK];have:=HB1.out.size;omega));clear hH hX hH3 hX3 x0 x1 f0 f1 hN3 hB3 hN0 hB0;clear HH1 HX
    revert HK3 HX3 HN3
    generalize ((w2.setCell ⟨w1.heap.size,0,none⟩ (.bool x.s)).setCell ⟨w1.heap.size,1,none⟩ (.slice A3 m3 c3))=w3;intro HK3 HX3 HN3;by_cases hlast:k+1<n
    .have hkl2:k+1<l.length:=by rw[HL.out.len];omega
     obtain⟨y,hy,hxy⟩:=pY hkl2 HXR.out;have HYE:=Lib.hid hy;have HXY:=Lib.hid hxy;have HLX:=Lib.hid HXLIM.out;have HLY:=Lib.hid (dK hy).2.2;obtain⟨AQ,mQ,cQ,q0,q1,hQn,hQl⟩:=(HPI.out (k+1) hkl2).is;have HQN:=Lib.hid hQn;have hlt1:((k:Int)+1<(n:Int)):=by omega
     have hix4:(0:Int)<=(k:Int)+1:=by omega
     clear hy hxy hQn hQl
     have HH2:Hid (Hold w1 [(w.heap.size+1,0,.bool b.s),(w.heap.size+1,1,.slice A2 m2 c2),(bP,oP+(k+1)*2,.bool l[(k+1)].s),(bP,oP+(k+1)*2+1,.slice AQ mQ cQ)] w1):=Lib.hid (Hold.of4 (by have:=HG.out;omega) (by have h1:=HE.out.below.size;have h2:=HB1.out.size;omega) (HE1.out.cell 1 0 rfl rfl) (HE1.out.cell 1 1 rfl rfl)
      ((HB1.out.cell (p:=⟨bP,oP+(k+1)*2,none⟩) (by show bP<_;have h1:=HE.out.below.size;omega)).trans ((HE.out.below.cell (p:=⟨bP,oP+(k+1)*2,none⟩) hltP).trans q0))
      ((HB1.out.cell (p:=⟨bP,oP+(k+1)*2+1,none⟩) (by show bP<_;have h1:=HE.out.below.size;omega)).trans ((HE.out.below.cell (p:=⟨bP,oP+(k+1)*2+1,none⟩) hltP).trans q1)))
     clear q0 q1;go_wp2_with fail;have hH:=(HK3.out _ HH2.out).drew;have hX:Bx2 w3.drew w1.heap.size 50 (.bool x.s) (.slice A3 m3 c3):=HX3.out;have hN:NumN wr.heap.size w3.drew (.slice A3 m3 c3) x.n x.z:=HN3.out.below (RowKit.Below.refl _ _).drew;obtain⟨x0,x1,f0,f1⟩:=hX.facts;obtain⟨_,s0,s1,s2,s3⟩:=Hold.dL hH
     go_region_with
      (first
       |(go_at_call 72;refine(ew b.s l[k+1].s A2 AQ m2 c2 mQ cQ b.n l[k+1].n b.z l[k+1].z _ (HB.out.below (Env.below (Env.step HE1.out (Hold.below hH)))) (HQN.out.below ((HE1.out.below).trans ((Hold.below hH).mono (by have:=HG.out;omega)))) HYE.out).mono ?_;rintro e w4 ⟨⟨A5,m5,c5,rfl,hN5⟩,hB5⟩;have hH5:=Hold.step hH hB5;have hX5:=Bx2.step hX hB5;have hN':=NumN.below hN hB5;obtain⟨y0,y1,e0,e1⟩:=hX5.facts)
       |(go_at_call 120;refine(iM x.s y.s A3 A5 m3 c3 m5 c5 x.n y.n x.z y.z _ hN'.num hN5.num HLX.out HLY.out HXY.out).mono ?_;rintro e w5 ⟨⟨A6,m6,c6,rfl,hN6⟩,hB6⟩;have hH6:=Hold.step hH5 hB6;have hX6:=Bx2.step hX5 hB6;obtain⟨z0,z1,e2,e3⟩:=hX6.facts))
     all_goals
      have HK7:Hid (∀fs,Hold w1 fs w1->Hold w1 fs ((w5.setCell ⟨w1.heap.size,0,none⟩ (.bool (res (k+1)).s)).setCell ⟨w1.heap.size,1,none⟩ (.slice A6 m6 c6))):=Lib.hid λfs h=>(((((HK3.out fs h).drew).step hB5).step hB6).set (Nat.le_refl _) 0 _).set (Nat.le_refl _) 1 _
      have HX7:=Lib.hid (Bx2.set hX6 (.bool (res (k+1)).s) (.slice A6 m6 c6));have HN7:Hid (NumN wr.heap.size ((w5.setCell ⟨w1.heap.size,0,none⟩ (.bool (res (k+1)).s)).setCell ⟨w1.heap.size,1,none⟩ (.slice A6 m6 c6)) (.slice A6 m6 c6) (res (k+1)).n (res (k+1)).z):=Lib.hid ((hN6.only (b:=w1.heap.size) (Nat.lt_of_lt_of_le hX.lt hB5.size) (((Only.refl _ _).set _ _).set _ _)).mono (Nat.le_trans HB1.out.size (Nat.le_trans (Nat.le_of_lt hX.lt) hB5.size)));clear s0 s1 s2 s3 hH hX hN hH5 hX5 hN' hH6 hX6 x0 x1 f0 f1 y0 y1 e0 e1 z0 z1 e2 e3 hN5 hB5 hN6 hB6;clear HH2
      revert HK7 HX7 HN7
      generalize ((w5.setCell ⟨w1.heap.size,0,none⟩ (.bool (res (k+1)).s)).setCell ⟨w1.heap.size,1,none⟩ (.slice A6 m6 c6))=w7;intro HK7 HX7 HN7;have HKB:Hid (RowKit.Below wr.heap.size wr w7):=Lib.hid (HB1.out.trans ((Hold.below (HK7.out [] (Hold.start (λ_ h=>(by cases h)) (λ_ h=>(by cases h))))).mono HB1.out.size));have HO:=Lib.hid (HBLK.out.below HKB.out);obtain⟨so,vo,o0,o1,g0,g1⟩:=HO.out.facts (i:=k+1) (by simp<;>omega)
      skip
      obtain⟨x0,x1,f0,f1⟩:=HX7.out.facts;have hix5:(0:Int)<=((k+1:Nat):Int):=Int.natCast_nonneg _;have hix6:((k+1:Nat):Int)<((n+1:Nat):Int):=by omega
      go_wp2
      go_roundw
      case rel=>
       refine⟨k+1+1,xs.set (k+1) ((res (k+1)).s,.slice A6 m6 c6),by omega,by go_num,?_,?_⟩
       .exact(HBLK.out.put HKB.out HE.out.below.size HN7.out (k+1)).cast (iQ res J.null (by omega))
       .exact((HE.out.step HKB.out).set (b:=w.heap.size+1+1) (by simp) _ _).set (b:=w.heap.size+1+1) (by simp) _ _
      case measure=>simp[intOf]<;>omega
    .have hxe:x=res (k+1):=pZ (by rw[HL.out.len];exact hlast) HXR.out;subst hxe;have hlt1:¬((k:Int)+1<(n:Int)):=by omega
     have HKB:Hid (RowKit.Below wr.heap.size wr w3):=Lib.hid (HB1.out.trans ((Hold.below (HK3.out [] (Hold.start (λ_ h=>(by cases h)) (λ_ h=>(by cases h))))).mono HB1.out.size));have HO:=Lib.hid (HBLK.out.below HKB.out);obtain⟨so,vo,o0,o1,g0,g1⟩:=HO.out.facts (i:=k+1) (by simp<;>omega)
     skip
     obtain⟨x0,x1,f0,f1⟩:=HX3.out.facts;have hix5:(0:Int)<=((k+1:Nat):Int):=Int.natCast_nonneg _;have hix6:((k+1:Nat):Int)<((n+1:Nat):Int):=by omega
     go_wp2
     go_roundw
     case rel=>
      refine⟨k+1+1,xs.set (k+1) ((res (k+1)).s,.slice A3 m3 c3),by omega,by go_num,?_,?_⟩
      .exact(HBLK.out.put HKB.out HE.out.below.size HN3.out (k+1)).cast (iQ res J.null (by omega))
      .exact((HE.out.step HKB.out).set (b:=w.heap.size+1+1) (by simp) _ _).set (b:=w.heap.size+1+1) (by simp) _ _
     case measure=>simp[intOf]<;>omega
  .have hkn1:k=n+1:=by omega
   subst hkn1;go_wp2;go_ret;exact⟨⟨w.heap.size+1+1,xs,by simp,by omega,HBLK.out.cast (by simp)⟩,HE.out.below⟩
end Go.BI
