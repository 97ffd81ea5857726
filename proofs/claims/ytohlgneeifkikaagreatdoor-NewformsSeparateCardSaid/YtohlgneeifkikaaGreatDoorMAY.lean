/- Known results of calls, told by the kernel. Conditions: none. -/
import Derived.Test.YtohlgneeifkikaaGreatDoorMAQ
set_option maxRecDepth 1000000
set_option maxHeartbeats 0
namespace Go.Ex.KP
open Go Go.Ex Go.Ex.KD Go.Proofs
theorem DO(h:CA 26):CA 0:=by
 iterate 26 refine cs (by as_aux_lemma=>kernel_rfl) ?_
 exact h
theorem tw0:Hf q2 q2 fW ⟨⟨[],ro0,[],.bool true,none,none⟩,[],[],[]⟩=true:=by kernel_rfl
end Go.Ex.KP
