/- Known results of calls, told by the kernel. Conditions: none. -/
import Derived.Test.YtohlgneeifkikaaGreatDoorMAQ
set_option maxRecDepth 1000000
set_option maxHeartbeats 0
namespace Go.Ex.KP
open Go Go.Ex Go.Ex.KD Go.Proofs
theorem Wu(h:CA 117):CA 101:=by
 iterate 16 refine cs (by as_aux_lemma=>kernel_rfl) ?_
 exact h
theorem DU(h:CC 75):CC 0:=by
 iterate 75 refine cs (by as_aux_lemma=>kernel_rfl) ?_
 exact h
end Go.Ex.KP
