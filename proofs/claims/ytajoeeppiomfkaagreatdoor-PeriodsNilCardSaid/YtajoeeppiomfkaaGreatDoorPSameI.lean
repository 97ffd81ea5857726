/- The table's functions are the compiled functions of the program, a part of them. Conditions: none. -/
import Derived.Test.YtajoeeppiomfkaaGreatDoorPTabC
import Derived.Test.YtajoeeppiomfkaaGreatDoorExSoundB
import Derived.Test.YtajoeeppiomfkaaGreatDoorProg
import Derived.KernelRfl
set_option maxRecDepth 100000
namespace Go.Ex.KP
open Go.Proofs
theorem e394 : cFn Tryz.prog [(4,q),(0,q0),(1,q1)] [] Tryz.f394 = some c394 := by kernel_rfl
theorem e395 : cFn Tryz.prog [(10,q),(5,q0),(11,q1),(9,q2),(12,q3),(13,q4),(4,q5),(0,q6),(6,q7),(1,q00),(14,q10),(7,q20),(28,q30),(65,q40),(16,q50),(29,q60),(30,q70),(31,q01),(32,q11),(33,q21),(34,q31),(35,q41),(36,q51),(37,q61),(38,q71),(39,q02),(40,q12),(41,q22),(42,q32),(66,q42),(67,q52),(68,q62),(69,q72),(70,q03),(71,q13),(72,q23),(73,q33),(74,q43),(75,q53),(76,q63),(77,q73),(78,q04),(79,q14),(80,q24),(81,q34)] [44,58,106,105] Tryz.f395 = some c395 := by kernel_rfl
theorem e396 : cFn Tryz.prog [(19,q),(7,q0),(0,q1),(16,q2),(17,q3),(18,q4),(20,q5),(21,q6),(22,q7),(23,q00),(24,q10),(25,q20),(26,q30),(27,q40),(28,q50),(29,q60),(30,q70),(33,q01),(34,q11),(35,q21),(36,q31),(37,q41),(38,q51),(39,q61),(40,q71),(41,q02),(42,q12),(43,q22),(44,q32),(45,q42),(46,q52),(47,q62),(48,q72),(1,q03),(6,q13),(2,q23)] [] Tryz.f396 = some c396 := by kernel_rfl
theorem e402 : cFn Tryz.prog [(4,q),(0,q0),(1,q1)] [] Tryz.f402 = some c402 := by kernel_rfl
theorem e405 : cFn Tryz.prog [(0,q)] [] Tryz.f405 = some c405 := by kernel_rfl
theorem e408 : cFn Tryz.prog [(21,q),(9,q0),(0,q1),(18,q2),(19,q3),(20,q4),(22,q5),(23,q6),(24,q7),(25,q00),(26,q10),(27,q20),(28,q30),(29,q40),(30,q50),(31,q60),(32,q70),(33,q01),(34,q11),(37,q21),(38,q31),(39,q41),(40,q51),(41,q61),(42,q71),(43,q02),(44,q12),(45,q22),(46,q32),(47,q42),(48,q52),(49,q62),(50,q72),(51,q03),(52,q13),(1,q23),(3,q33),(8,q43),(2,q53)] [] Tryz.f408 = some c408 := by kernel_rfl
def L8 : List (Nat × CFn) := [(394,c394),(395,c395),(396,c396),(402,c402),(405,c405),(408,c408)]
theorem g8 : ∀ x ∈ L8, Good Tryz.prog x := List.forall_mem_cons.2 ⟨⟨_, _, _, Tryz.func394, e394⟩, List.forall_mem_cons.2 ⟨⟨_, _, _, Tryz.func395, e395⟩, List.forall_mem_cons.2 ⟨⟨_, _, _, Tryz.func396, e396⟩, List.forall_mem_cons.2 ⟨⟨_, _, _, Tryz.func402, e402⟩, List.forall_mem_cons.2 ⟨⟨_, _, _, Tryz.func405, e405⟩, List.forall_mem_cons.2 ⟨⟨_, _, _, Tryz.func408, e408⟩, fun _ h => (by cases h)⟩⟩⟩⟩⟩⟩
end Go.Ex.KP
