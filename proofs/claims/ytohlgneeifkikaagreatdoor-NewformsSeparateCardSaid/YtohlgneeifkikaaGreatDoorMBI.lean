/- Known results of calls, told by the kernel. Conditions: none. -/
import Derived.Test.YtohlgneeifkikaaGreatDoorMAQ
set_option maxRecDepth 1000000
set_option maxHeartbeats 0
namespace Go.Ex.KP
open Go Go.Ex Go.Ex.KD Go.Proofs
theorem WA(h:CD 216):CD 205:=by
 iterate 11 refine cs (by as_aux_lemma=>kernel_rfl) ?_
 exact h
theorem D1(h:CE 67):CE 0:=by
 iterate 67 refine cs (by as_aux_lemma=>kernel_rfl) ?_
 exact h
end Go.Ex.KP
