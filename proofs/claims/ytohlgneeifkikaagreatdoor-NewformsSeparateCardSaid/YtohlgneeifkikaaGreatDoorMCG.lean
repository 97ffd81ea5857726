/- A part of the executor of abstract values, its soundness over the model, and what functions of the program reckon. Conditions: those stated at each theorem. -/
import Derived.Test.YtohlgneeifkikaaGreatDoorMCD
set_option maxRecDepth 1000000
set_option maxHeartbeats 0
set_option linter.unusedVariables false
noncomputable section
namespace Go.Ex.KV
open Go Go.RowKit Go.Proofs Go.Ex.KD
structure Told4:Prop where
 awake:∀w:World,Lib.TabIs Tryz.prog w "math/bits.deBruijn64tab" .u8 zs->Calls Tryz.prog 6 #[] w λe w'=>e=.returned (.bool true)/\RowKit.Below w.heap.size w w'
 small:∀s∈Fc,∀w:World,Lib.TabIs Tryz.prog w "math/bits.deBruijn64tab" .u8 zs->Calls Tryz.prog 4 #[.agg #[.int .i64 (.ofNat s.1),.int .i64 (.ofNat s.2.1),.int .i64 s.2.2]] w λe w'=>e=.returned (.bool true)/\RowKit.Below w.heap.size w w'
theorem E8(hT:Told4)(L W D:Int)(w:World)(ht:Lib.TabIs Tryz.prog w "math/bits.deBruijn64tab" .u8 zs) (hl:Gm L W D=true) :
 Calls Tryz.prog 4 #[.agg #[.int .i64 L,.int .i64 W,.int .i64 D]] w λe w'=>e=.returned (.bool true)/\RowKit.Below w.heap.size w w':=by
 have HT:=Lib.hid ht;clear ht;have HA:=Lib.hid hT.awake;clear hT;have HL:=Lib.hid (λw=>sC L W D w);rw[hl]at HL;clear hl;go_enter Tryz.func4,Tryz.ntmps4;go_wp2_with fail;refine(HA.out _ (sG HT.out)).mono ?_;rintro e w1 ⟨rfl,hb⟩;have S1:=SpecAt.box hb;clear hb;have e0:=S1.c0;have e1:=S1.c1;have e2:=S1.c2;go_wp2_with fail;refine(HL.out _).mono ?_;rintro e w2 ⟨rfl,hb2⟩;have S2:=S1.later hb2;clear hb2 e0 e1 e2;go_wp2;go_ret;exact⟨rfl,S2.below⟩
theorem E9(hT:Told4)(L W D:Int)(w:World)(ht:Lib.TabIs Tryz.prog w "math/bits.deBruijn64tab" .u8 zs) (hc:Fa L W D≠0) :
 Calls Tryz.prog 4 #[.agg #[.int .i64 L,.int .i64 W,.int .i64 D]] w λe w'=>e=.returned (.bool true)/\RowKit.Below w.heap.size w w':=by
 have HT:=Lib.hid ht;clear ht;have HA:=Lib.hid hT.awake;clear hT;have HL:=Lib.hid (λw=>sC L W D w);rw[show Gm L W D=false from decide_eq_false λh=>hc h.1]at HL;have HN:=Lib.hid (λw=>Dy L W D w hc);generalize Fa L W D=z at *;have hn:(z==0)=false:=beq_false_of_ne hc;have hn':(z !=0)=true:=by rw[bne,hn];rfl
 clear hc;go_enter Tryz.func4,Tryz.ntmps4;go_wp2_with fail;refine(HA.out _ (sG HT.out)).mono ?_;rintro e w1 ⟨rfl,hb⟩;have S1:=SpecAt.box hb;clear hb;have e0:=S1.c0;have e1:=S1.c1;have e2:=S1.c2;go_wp2_with fail;refine(HL.out _).mono ?_;rintro e w2 ⟨rfl,hb2⟩;have S2:=S1.later hb2;clear hb2 e0 e1 e2;have e0:=S2.c0;have e1:=S2.c1;have e2:=S2.c2;go_wp2_with fail;refine(HN.out _).mono ?_;rintro e w3 ⟨rfl,hb3⟩;have S3:=S2.later hb3;clear hb3 e0 e1 e2;go_wp2;go_ret;exact⟨rfl,S3.below⟩
theorem E_(hT:Told4)(L W D:Int)(w:World)(ht:Lib.TabIs Tryz.prog w "math/bits.deBruijn64tab" .u8 zs) :
 Calls Tryz.prog 4 #[.agg #[.int .i64 L,.int .i64 W,.int .i64 D]] w λe w'=>e=.returned (.bool true)/\RowKit.Below w.heap.size w w':=by
 by_cases hc:Fa L W D=0
 .by_cases hm:48<(W-1)*psiT L
  .exact E8 hT L W D w ht (decide_eq_true ⟨hc,hm⟩)
  .obtain⟨s,hs,rfl,rfl,rfl⟩:=DD (DC hc (by omega));exact hT.small s hs w ht
 .exact E9 hT L W D w ht hc
end Go.Ex.KV
