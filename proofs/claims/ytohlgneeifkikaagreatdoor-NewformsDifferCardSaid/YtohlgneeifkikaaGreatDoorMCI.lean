/- A part of the executor of abstract values, its soundness over the model, and what functions of the program reckon. Conditions: those stated at each theorem. -/
import Derived.Test.YtohlgneeifkikaaGreatDoorMBP
import Derived.Test.YtohlgneeifkikaaGreatDoorMBQ
import Derived.Test.YtohlgneeifkikaaGreatDoorMBR
import Derived.Test.YtohlgneeifkikaaGreatDoorMCF
import Derived.Test.YtohlgneeifkikaaGreatDoorMCC
set_option maxRecDepth 1000000
set_option maxHeartbeats 0
set_option linter.unusedVariables false
noncomputable section
namespace Go.Ex.KP
open Go Go.Ex Go.Ex.KD Go.Proofs
theorem fZ:Fc.all (tS f3)=true:=s30 (s31 (s32 (by show(Fc.drop 132).all (tS f3)=true;kernel_rfl)))
theorem EJ:KV.Told3:=⟨λw ht=>KV.sF (T:=KY6.FN κB) (k:=fW) (λω h=>aB h) (KY6.K6 (κ:=κB)).a (λ_ _=>.nil) Ek w ht,
 λs hs w ht=>KV.sF (T:=KY6.FN κ2) (k:=f3) (λω h=>a2 h) (KY6.K3 (κ:=κ2)).a (λρ ω=>KV.DE s ρ ω) (List.all_eq_true.1 fZ s hs) w ht⟩
end Go.Ex.KP
