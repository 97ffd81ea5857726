/- A part of the executor of abstract values, its soundness over the model, and what functions of the program reckon. Conditions: those stated at each theorem. -/
import Derived.Test.YtohlgneeifkikaaGreatDoorMBL
import Derived.Test.YtohlgneeifkikaaGreatDoorMBM
import Derived.Test.YtohlgneeifkikaaGreatDoorMBN
import Derived.Test.YtohlgneeifkikaaGreatDoorMCE
import Derived.Test.YtohlgneeifkikaaGreatDoorMCC
set_option maxRecDepth 1000000
set_option maxHeartbeats 0
set_option linter.unusedVariables false
noncomputable section
namespace Go.Ex.KP
open Go Go.Ex Go.Ex.KD Go.Proofs
theorem fS:Fc.all (tS f5)=true:=s50 (s51 (s52 (by show(Fc.drop 132).all (tS f5)=true;kernel_rfl)))
theorem El:KV.Told5:=⟨λw ht=>KV.sF (T:=KY6.FN κB) (k:=fW) (λω h=>aB h) (KY6.K6 (κ:=κB)).a (λ_ _=>.nil) Ek w ht,
 λs hs w ht=>KV.sF (T:=KY6.FN κ2) (k:=f5) (λω h=>a2 h) (KY6.K5 (κ:=κ2)).a (λρ ω=>KV.DE s ρ ω) (List.all_eq_true.1 fS s hs) w ht⟩
end Go.Ex.KP
