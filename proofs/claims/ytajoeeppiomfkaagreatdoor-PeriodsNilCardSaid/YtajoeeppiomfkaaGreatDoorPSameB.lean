/- The table's functions are the compiled functions of the program, a part of them. Conditions: none. -/
import Derived.Test.YtajoeeppiomfkaaGreatDoorPTabC
import Derived.Test.YtajoeeppiomfkaaGreatDoorExSoundB
import Derived.Test.YtajoeeppiomfkaaGreatDoorProg
import Derived.KernelRfl
set_option maxRecDepth 100000
namespace Go.Ex.KP
open Go.Proofs
theorem e62 : cFn Tryz.prog [(99,q),(18,q0),(19,q1),(16,q2),(109,q3),(110,q4),(111,q5),(112,q6),(113,q7),(114,q00),(115,q10),(116,q20),(117,q30),(118,q40),(15,q50),(97,q60),(98,q70),(4,q01),(5,q11),(9,q21),(11,q31),(12,q41),(1,q51),(6,q61),(7,q71),(0,q02),(8,q12),(10,q22),(14,q32),(81,q42),(82,q52),(83,q62),(84,q72),(85,q03),(86,q13),(87,q23)] [47,55,90] Tryz.f62 = some c62 := by kernel_rfl
theorem e63 : cFn Tryz.prog [(1,q),(2,q0),(0,q1)] [] Tryz.f63 = some c63 := by kernel_rfl
theorem e64 : cFn Tryz.prog [(9,q),(8,q0),(44,q1),(45,q2),(46,q3),(47,q4),(48,q5),(49,q6),(50,q7),(51,q00),(52,q10),(53,q20),(54,q30),(55,q40),(56,q50),(57,q60),(58,q70),(59,q01),(60,q11),(61,q21),(62,q31),(63,q41),(64,q51),(65,q61),(1,q71),(4,q02),(5,q12),(7,q22),(0,q32),(6,q42)] [] Tryz.f64 = some c64 := by kernel_rfl
theorem e65 : cFn Tryz.prog [(19,q),(17,q0),(91,q1),(95,q2),(0,q3),(15,q4),(96,q5),(97,q6),(98,q7),(99,q00),(100,q10),(108,q20),(109,q30),(110,q40),(111,q50),(112,q60),(113,q70),(114,q01),(115,q11),(116,q21),(117,q31),(118,q41),(119,q51),(120,q61),(121,q71),(14,q02),(89,q12),(16,q22),(90,q32),(2,q42),(3,q52),(4,q62),(44,q72),(24,q03),(9,q13),(12,q23),(13,q33),(21,q43),(65,q53),(11,q63),(20,q73),(66,q04),(67,q14),(68,q24),(69,q34),(70,q44),(71,q54),(72,q64),(73,q74),(74,q05),(75,q15),(76,q25),(77,q35),(78,q45),(79,q55),(80,q65),(42,q75),(43,q06),(6,q16),(5,q26),(7,q36)] [36,57,84,131,146] Tryz.f65 = some c65 := by kernel_rfl
theorem e66 : cFn Tryz.prog [(15,q),(6,q0),(34,q1),(45,q2),(13,q3),(0,q4),(11,q5),(14,q6),(16,q7),(18,q00),(20,q10),(21,q20),(49,q30),(65,q40),(4,q50),(22,q60),(50,q70),(51,q01),(52,q11),(53,q21),(54,q31),(55,q41),(56,q51),(66,q61),(67,q71),(68,q02),(69,q12),(70,q22),(71,q32),(72,q42),(73,q52),(74,q62),(94,q72),(95,q03),(96,q13),(97,q23),(98,q33),(99,q43),(100,q53),(101,q63),(102,q73),(103,q04),(104,q14),(105,q24),(106,q34),(32,q44),(43,q54),(33,q64),(44,q74),(8,q05),(9,q15),(1,q25),(2,q35)] [] Tryz.f66 = some c66 := by kernel_rfl
theorem e67 : cFn Tryz.prog [(3,q),(4,q0),(0,q1),(2,q2)] [] Tryz.f67 = some c67 := by kernel_rfl
theorem e68 : cFn Tryz.prog [(0,q),(2,q0)] [] Tryz.f68 = some c68 := by kernel_rfl
theorem e69 : cFn Tryz.prog [(2,q),(0,q0)] [] Tryz.f69 = some c69 := by kernel_rfl
theorem e70 : cFn Tryz.prog [(0,q),(4,q0),(5,q1),(1,q2)] [] Tryz.f70 = some c70 := by kernel_rfl
theorem e71 : cFn Tryz.prog [(2,q),(0,q0),(1,q1)] [] Tryz.f71 = some c71 := by kernel_rfl
theorem e72 : cFn Tryz.prog [(19,q),(5,q0),(2,q1),(3,q2),(4,q3),(15,q4),(1,q5),(13,q6),(14,q7),(16,q00),(17,q10),(18,q20),(20,q30),(21,q40),(22,q50),(23,q60),(24,q70),(25,q01),(26,q11),(27,q21),(0,q31)] [] Tryz.f72 = some c72 := by kernel_rfl
theorem e73 : cFn Tryz.prog [(4,q),(6,q0),(0,q1),(1,q2)] [] Tryz.f73 = some c73 := by kernel_rfl
theorem e74 : cFn Tryz.prog [(2,q),(0,q0)] [] Tryz.f74 = some c74 := by kernel_rfl
theorem e75 : cFn Tryz.prog [(16,q),(32,q0),(6,q1),(7,q2),(4,q3),(8,q4),(11,q5),(12,q6),(13,q7),(14,q00),(15,q10),(30,q20),(10,q30),(31,q40),(9,q50),(0,q60),(1,q70),(2,q01)] [25,58,69] Tryz.f75 = some c75 := by kernel_rfl
theorem e76 : cFn Tryz.prog [(1,q),(2,q0),(4,q1),(5,q2),(10,q3),(12,q4),(6,q5),(7,q6),(8,q7),(0,q00)] [] Tryz.f76 = some c76 := by kernel_rfl
theorem e77 : cFn Tryz.prog [(4,q),(0,q0),(1,q1)] [] Tryz.f77 = some c77 := by kernel_rfl
theorem e78 : cFn Tryz.prog [(6,q),(7,q0),(9,q1),(3,q2),(8,q3),(0,q4),(1,q5),(2,q6)] [17] Tryz.f78 = some c78 := by kernel_rfl
theorem e79 : cFn Tryz.prog [(6,q),(0,q0),(1,q1),(2,q2)] [] Tryz.f79 = some c79 := by kernel_rfl
theorem e80 : cFn Tryz.prog [(4,q),(5,q0),(7,q1),(2,q2),(6,q3),(0,q4),(1,q5)] [] Tryz.f80 = some c80 := by kernel_rfl
theorem e81 : cFn Tryz.prog [(5,q),(1,q0),(4,q1),(17,q2),(18,q3),(19,q4),(20,q5),(21,q6),(22,q7),(23,q00),(24,q10),(25,q20),(26,q30),(27,q40),(28,q50),(2,q60),(3,q70),(0,q01)] [] Tryz.f81 = some c81 := by kernel_rfl
theorem e82 : cFn Tryz.prog [(2,q),(1,q0),(0,q1)] [] Tryz.f82 = some c82 := by kernel_rfl
theorem e83 : cFn Tryz.prog [(2,q),(0,q0)] [] Tryz.f83 = some c83 := by kernel_rfl
theorem e84 : cFn Tryz.prog [(4,q),(5,q0),(1,q1),(6,q2),(7,q3),(0,q4)] [] Tryz.f84 = some c84 := by kernel_rfl
theorem e88 : cFn Tryz.prog [(1,q),(4,q0),(0,q1)] [] Tryz.f88 = some c88 := by kernel_rfl
theorem e89 : cFn Tryz.prog [(2,q),(0,q0)] [] Tryz.f89 = some c89 := by kernel_rfl
theorem e90 : cFn Tryz.prog [(0,q),(2,q0)] [] Tryz.f90 = some c90 := by kernel_rfl
theorem e91 : cFn Tryz.prog [(3,q),(2,q0),(4,q1),(5,q2),(6,q3),(7,q4),(8,q5),(9,q6),(26,q7),(27,q00),(28,q10),(29,q20),(0,q30),(1,q40)] [] Tryz.f91 = some c91 := by kernel_rfl
theorem e92 : cFn Tryz.prog [(2,q),(3,q0),(4,q1),(5,q2),(6,q3),(7,q4),(8,q5),(9,q6),(10,q7),(11,q00),(12,q10),(13,q20),(14,q30),(15,q40),(16,q50),(17,q60),(0,q70),(1,q01)] [] Tryz.f92 = some c92 := by kernel_rfl
theorem e93 : cFn Tryz.prog [(1,q),(2,q0),(0,q1)] [] Tryz.f93 = some c93 := by kernel_rfl
theorem e94 : cFn Tryz.prog [(33,q),(9,q0),(6,q1),(8,q2),(26,q3),(27,q4),(28,q5),(29,q6),(30,q7),(31,q00),(32,q10),(34,q20),(35,q30),(36,q40),(37,q50),(38,q60),(39,q70),(40,q01),(41,q11),(42,q21),(43,q31),(7,q41),(4,q51),(5,q61),(2,q71),(3,q02),(0,q12),(1,q22)] [17,25] Tryz.f94 = some c94 := by kernel_rfl
theorem e95 : cFn Tryz.prog [(100,q),(20,q0),(9,q1),(103,q2),(104,q3),(105,q4),(106,q5),(107,q6),(108,q7),(109,q00),(110,q10),(111,q20),(112,q30),(113,q40),(114,q50),(115,q60),(116,q70),(15,q01),(19,q11),(99,q21),(18,q31),(62,q41),(12,q51),(6,q61),(7,q71),(14,q02),(16,q12),(17,q22),(94,q32),(95,q42),(96,q52),(97,q62),(60,q72),(61,q03),(0,q13),(8,q23),(11,q33),(28,q43),(2,q53),(43,q63),(10,q73),(13,q04),(44,q14),(45,q24),(46,q34),(47,q44),(48,q54),(49,q64),(50,q74),(51,q05),(52,q15),(53,q25),(54,q35),(55,q45),(27,q55),(1,q65)] [64,84,93] Tryz.f95 = some c95 := by kernel_rfl
theorem e96 : cFn Tryz.prog [(1,q),(2,q0),(0,q1)] [] Tryz.f96 = some c96 := by kernel_rfl
theorem e97 : cFn Tryz.prog [(3,q),(4,q0),(2,q1),(5,q2),(6,q3),(7,q4),(8,q5),(9,q6),(10,q7),(11,q00),(0,q10),(1,q20)] [] Tryz.f97 = some c97 := by kernel_rfl
theorem e98 : cFn Tryz.prog [(0,q),(4,q0),(1,q1)] [] Tryz.f98 = some c98 := by kernel_rfl
theorem e100 : cFn Tryz.prog [(7,q),(5,q0),(6,q1),(0,q2),(4,q3),(1,q4)] [] Tryz.f100 = some c100 := by kernel_rfl
theorem e101 : cFn Tryz.prog [(2,q),(0,q0)] [] Tryz.f101 = some c101 := by kernel_rfl
theorem e102 : cFn Tryz.prog [(0,q),(1,q0),(5,q1),(6,q2),(4,q3)] [42] Tryz.f102 = some c102 := by kernel_rfl
theorem e103 : cFn Tryz.prog [(5,q),(4,q0),(0,q1),(1,q2)] [] Tryz.f103 = some c103 := by kernel_rfl
theorem e104 : cFn Tryz.prog [(2,q),(0,q0)] [] Tryz.f104 = some c104 := by kernel_rfl
theorem e105 : cFn Tryz.prog [(5,q),(1,q0),(0,q1),(4,q2),(21,q3),(22,q4),(23,q5),(24,q6),(25,q7),(26,q00),(27,q10)] [] Tryz.f105 = some c105 := by kernel_rfl
def L1 : List (Nat × CFn) := [(62,c62),(63,c63),(64,c64),(65,c65),(66,c66),(67,c67),(68,c68),(69,c69),(70,c70),(71,c71),(72,c72),(73,c73),(74,c74),(75,c75),(76,c76),(77,c77),(78,c78),(79,c79),(80,c80),(81,c81),(82,c82),(83,c83),(84,c84),(88,c88),(89,c89),(90,c90),(91,c91),(92,c92),(93,c93),(94,c94),(95,c95),(96,c96),(97,c97),(98,c98),(100,c100),(101,c101),(102,c102),(103,c103),(104,c104),(105,c105)]
theorem g1 : ∀ x ∈ L1, Good Tryz.prog x := List.forall_mem_cons.2 ⟨⟨_, _, _, Tryz.func62, e62⟩, List.forall_mem_cons.2 ⟨⟨_, _, _, Tryz.func63, e63⟩, List.forall_mem_cons.2 ⟨⟨_, _, _, Tryz.func64, e64⟩, List.forall_mem_cons.2 ⟨⟨_, _, _, Tryz.func65, e65⟩, List.forall_mem_cons.2 ⟨⟨_, _, _, Tryz.func66, e66⟩, List.forall_mem_cons.2 ⟨⟨_, _, _, Tryz.func67, e67⟩, List.forall_mem_cons.2 ⟨⟨_, _, _, Tryz.func68, e68⟩, List.forall_mem_cons.2 ⟨⟨_, _, _, Tryz.func69, e69⟩, List.forall_mem_cons.2 ⟨⟨_, _, _, Tryz.func70, e70⟩, List.forall_mem_cons.2 ⟨⟨_, _, _, Tryz.func71, e71⟩, List.forall_mem_cons.2 ⟨⟨_, _, _, Tryz.func72, e72⟩, List.forall_mem_cons.2 ⟨⟨_, _, _, Tryz.func73, e73⟩, List.forall_mem_cons.2 ⟨⟨_, _, _, Tryz.func74, e74⟩, List.forall_mem_cons.2 ⟨⟨_, _, _, Tryz.func75, e75⟩, List.forall_mem_cons.2 ⟨⟨_, _, _, Tryz.func76, e76⟩, List.forall_mem_cons.2 ⟨⟨_, _, _, Tryz.func77, e77⟩, List.forall_mem_cons.2 ⟨⟨_, _, _, Tryz.func78, e78⟩, List.forall_mem_cons.2 ⟨⟨_, _, _, Tryz.func79, e79⟩, List.forall_mem_cons.2 ⟨⟨_, _, _, Tryz.func80, e80⟩, List.forall_mem_cons.2 ⟨⟨_, _, _, Tryz.func81, e81⟩, List.forall_mem_cons.2 ⟨⟨_, _, _, Tryz.func82, e82⟩, List.forall_mem_cons.2 ⟨⟨_, _, _, Tryz.func83, e83⟩, List.forall_mem_cons.2 ⟨⟨_, _, _, Tryz.func84, e84⟩, List.forall_mem_cons.2 ⟨⟨_, _, _, Tryz.func88, e88⟩, List.forall_mem_cons.2 ⟨⟨_, _, _, Tryz.func89, e89⟩, List.forall_mem_cons.2 ⟨⟨_, _, _, Tryz.func90, e90⟩, List.forall_mem_cons.2 ⟨⟨_, _, _, Tryz.func91, e91⟩, List.forall_mem_cons.2 ⟨⟨_, _, _, Tryz.func92, e92⟩, List.forall_mem_cons.2 ⟨⟨_, _, _, Tryz.func93, e93⟩, List.forall_mem_cons.2 ⟨⟨_, _, _, Tryz.func94, e94⟩, List.forall_mem_cons.2 ⟨⟨_, _, _, Tryz.func95, e95⟩, List.forall_mem_cons.2 ⟨⟨_, _, _, Tryz.func96, e96⟩, List.forall_mem_cons.2 ⟨⟨_, _, _, Tryz.func97, e97⟩, List.forall_mem_cons.2 ⟨⟨_, _, _, Tryz.func98, e98⟩, List.forall_mem_cons.2 ⟨⟨_, _, _, Tryz.func100, e100⟩, List.forall_mem_cons.2 ⟨⟨_, _, _, Tryz.func101, e101⟩, List.forall_mem_cons.2 ⟨⟨_, _, _, Tryz.func102, e102⟩, List.forall_mem_cons.2 ⟨⟨_, _, _, Tryz.func103, e103⟩, List.forall_mem_cons.2 ⟨⟨_, _, _, Tryz.func104, e104⟩, List.forall_mem_cons.2 ⟨⟨_, _, _, Tryz.func105, e105⟩, fun _ h => (by cases h)⟩⟩⟩⟩⟩⟩⟩⟩⟩⟩⟩⟩⟩⟩⟩⟩⟩⟩⟩⟩⟩⟩⟩⟩⟩⟩⟩⟩⟩⟩⟩⟩⟩⟩⟩⟩⟩⟩⟩⟩
theorem h62 : Good Tryz.prog (62, c62) := ⟨_, _, _, Tryz.func62, e62⟩
theorem h64 : Good Tryz.prog (64, c64) := ⟨_, _, _, Tryz.func64, e64⟩
theorem h66 : Good Tryz.prog (66, c66) := ⟨_, _, _, Tryz.func66, e66⟩
end Go.Ex.KP
