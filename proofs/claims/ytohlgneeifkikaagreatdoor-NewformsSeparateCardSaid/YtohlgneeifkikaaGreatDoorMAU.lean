/- Known results of calls, told by the kernel. Conditions: none. -/
import Derived.Test.YtohlgneeifkikaaGreatDoorMAQ
set_option maxRecDepth 1000000
set_option maxHeartbeats 0
namespace Go.Ex.KP
open Go Go.Ex Go.Ex.KD Go.Proofs
theorem Wq(h:CB 78):CB 40:=by
 iterate 38 refine cs (by as_aux_lemma=>kernel_rfl) ?_
 exact h
theorem DL(h:CF 4):CF 0:=by
 iterate 4 refine cs (by as_aux_lemma=>kernel_rfl) ?_
 exact h
end Go.Ex.KP
