/- A part of the executor of abstract values, its soundness over the model, and what functions of the program reckon. Conditions: those stated at each theorem. -/
import Derived.Test.YtohlgneeifkikaaGreatDoorMBT
import Derived.Test.YtohlgneeifkikaaGreatDoorMBU
import Derived.Test.YtohlgneeifkikaaGreatDoorMBV
import Derived.Test.YtohlgneeifkikaaGreatDoorMCG
import Derived.Test.YtohlgneeifkikaaGreatDoorMCC
set_option maxRecDepth 1000000
set_option maxHeartbeats 0
set_option linter.unusedVariables false
noncomputable section
namespace Go.Ex.KP
open Go Go.Ex Go.Ex.KD Go.Proofs
theorem EH:Fc.all (tS f4)=true:=s40 (s41 (s42 (by show(Fc.drop 132).all (tS f4)=true;kernel_rfl)))
theorem EK:KV.Told4:=⟨λw ht=>KV.sF (T:=KY6.FN κB) (k:=fW) (λω h=>aB h) (KY6.K6 (κ:=κB)).a (λ_ _=>.nil) Ek w ht,
 λs hs w ht=>KV.sF (T:=KY6.FN κ2) (k:=f4) (λω h=>a2 h) (KY6.K4 (κ:=κ2)).a (λρ ω=>KV.DE s ρ ω) (List.all_eq_true.1 EH s hs) w ht⟩
end Go.Ex.KP
