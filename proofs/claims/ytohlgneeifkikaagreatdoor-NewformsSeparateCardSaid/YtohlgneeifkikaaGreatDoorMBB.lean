/- Known results of calls, told by the kernel. Conditions: none. -/
import Derived.Test.YtohlgneeifkikaaGreatDoorMAQ
set_option maxRecDepth 1000000
set_option maxHeartbeats 0
namespace Go.Ex.KP
open Go Go.Ex Go.Ex.KD Go.Proofs
theorem Wt(h:CA 101):CA 64:=by
 iterate 37 refine cs (by as_aux_lemma=>kernel_rfl) ?_
 exact h
end Go.Ex.KP
