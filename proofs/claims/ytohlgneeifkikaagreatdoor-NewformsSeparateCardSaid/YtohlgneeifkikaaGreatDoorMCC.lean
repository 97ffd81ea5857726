/- The fixed example that the laws begin with, told by the kernel. Conditions: none. -/
import Derived.Test.YtohlgneeifkikaaGreatDoorMAQ
set_option maxRecDepth 1000000
set_option maxHeartbeats 0
set_option linter.unusedVariables false
noncomputable section
namespace Go.Ex.KP
open Go Go.Ex Go.Ex.KD Go.Proofs
theorem Ek:KV.Jw (fW [] H0)=true:=by kernel_rfl
end Go.Ex.KP
