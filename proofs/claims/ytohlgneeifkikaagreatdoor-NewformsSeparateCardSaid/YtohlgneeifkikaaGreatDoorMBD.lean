/- Known results of calls, told by the kernel. Conditions: none. -/
import Derived.Test.YtohlgneeifkikaaGreatDoorMAQ
set_option maxRecDepth 1000000
set_option maxHeartbeats 0
namespace Go.Ex.KP
open Go Go.Ex Go.Ex.KD Go.Proofs
theorem Wv(h:CC 136):CC 75:=by
 iterate 61 refine cs (by as_aux_lemma=>kernel_rfl) ?_
 exact h
theorem DW(h:CD 25):CD 0:=by
 iterate 25 refine cs (by as_aux_lemma=>kernel_rfl) ?_
 exact h
end Go.Ex.KP
