/- The law at small Specs, told by the kernel. Conditions: none. -/
import Derived.Test.YtohlgneeifkikaaGreatDoorMAQ
set_option maxRecDepth 1000000
set_option maxHeartbeats 0
namespace Go.Ex.KP
open Go Go.Ex Go.Ex.KD Go.Proofs
theorem s41(h:CS f4 104):CS f4 57:=by
 iterate 47 refine cs (by as_aux_lemma=>kernel_rfl) ?_
 exact h
end Go.Ex.KP
