/- The table's functions are the compiled functions of the program, a part of them. Conditions: none. -/
import Derived.Test.YtajoeeppiomfkaaGreatDoorPTabC
import Derived.Test.YtajoeeppiomfkaaGreatDoorExSoundB
import Derived.Test.YtajoeeppiomfkaaGreatDoorProg
import Derived.KernelRfl
set_option maxRecDepth 100000
namespace Go.Ex.KP
open Go.Proofs
theorem e4 : cFn Tryz.prog [(3,q),(5,q0),(14,q1),(4,q2),(2,q3),(6,q4),(8,q5),(10,q6),(7,q7),(9,q00),(11,q10),(12,q20),(13,q30),(0,q40),(1,q50)] [] Tryz.f4 = some c4 := by kernel_rfl
theorem e6 : cFn Tryz.prog [(4,q),(5,q0),(6,q1),(0,q2),(1,q3)] [] Tryz.f6 = some c6 := by kernel_rfl
theorem e8 : cFn Tryz.prog [(15,q),(65,q0),(17,q1),(82,q2),(11,q3),(12,q4),(16,q5),(83,q6),(84,q7),(85,q00),(86,q10),(87,q20),(88,q30),(89,q40),(90,q50),(91,q60),(92,q70),(93,q01),(94,q11),(6,q21),(7,q31),(0,q41),(13,q51),(63,q61),(64,q71),(9,q02),(2,q12),(8,q22),(55,q32),(1,q42),(56,q52),(57,q62),(58,q72),(59,q03),(60,q13),(61,q23),(62,q33)] [23,81,97] Tryz.f8 = some c8 := by kernel_rfl
theorem e9 : cFn Tryz.prog [(6,q),(7,q0),(9,q1),(0,q2),(1,q3),(8,q4),(2,q5)] [] Tryz.f9 = some c9 := by kernel_rfl
theorem e14 : cFn Tryz.prog [(2,q),(0,q0)] [] Tryz.f14 = some c14 := by kernel_rfl
theorem e16 : cFn Tryz.prog [(2,q),(3,q0),(4,q1),(0,q2),(1,q3)] [] Tryz.f16 = some c16 := by kernel_rfl
theorem e18 : cFn Tryz.prog [(54,q),(0,q0),(49,q1),(3,q2),(5,q3),(45,q4),(1,q5),(7,q6),(2,q7),(4,q00),(6,q10),(8,q20),(43,q30),(44,q40),(46,q50),(47,q60),(48,q70),(50,q01),(51,q11),(52,q21),(53,q31),(55,q41),(56,q51),(57,q61),(58,q71),(59,q02),(60,q12)] [] Tryz.f18 = some c18 := by kernel_rfl
theorem e19 : cFn Tryz.prog [(30,q),(10,q0),(8,q1),(9,q2),(35,q3),(36,q4),(37,q5),(38,q6),(39,q7),(40,q00),(41,q10),(42,q20),(43,q30),(44,q40),(45,q50),(0,q60),(28,q70),(29,q01),(4,q11),(5,q21),(7,q31),(14,q41),(3,q51),(6,q61),(15,q71),(16,q02),(17,q12),(18,q22),(19,q32),(20,q42),(21,q52),(22,q62),(1,q72)] [32] Tryz.f19 = some c19 := by kernel_rfl
theorem e20 : cFn Tryz.prog [(6,q),(7,q0),(0,q1),(2,q2),(8,q3),(9,q4),(4,q5),(1,q6)] [] Tryz.f20 = some c20 := by kernel_rfl
theorem e21 : cFn Tryz.prog [(61,q),(1,q0),(11,q1),(12,q2),(13,q3),(15,q4),(16,q5),(10,q6),(88,q7),(89,q00),(90,q10),(91,q20),(92,q30),(93,q40),(4,q50),(5,q60),(0,q70),(60,q01),(6,q11),(8,q21),(9,q31)] [] Tryz.f21 = some c21 := by kernel_rfl
theorem e22 : cFn Tryz.prog [(16,q),(71,q0),(6,q1),(7,q2),(14,q3),(15,q4),(17,q5),(10,q6),(0,q7),(12,q00),(69,q10),(1,q20),(9,q30),(70,q40),(2,q50),(8,q60),(11,q70),(62,q01),(63,q11),(64,q21),(65,q31)] [27,48,56,83,93] Tryz.f22 = some c22 := by kernel_rfl
theorem e23 : cFn Tryz.prog [(13,q),(5,q0),(3,q1),(11,q2),(12,q3),(2,q4),(0,q5)] [] Tryz.f23 = some c23 := by kernel_rfl
theorem e24 : cFn Tryz.prog [(5,q),(2,q0),(3,q1),(6,q2),(7,q3),(1,q4),(4,q5),(8,q6),(10,q7),(9,q00),(0,q10)] [18,26,44,51] Tryz.f24 = some c24 := by kernel_rfl
theorem e29 : cFn Tryz.prog [(4,q),(0,q0),(1,q1)] [] Tryz.f29 = some c29 := by kernel_rfl
theorem e30 : cFn Tryz.prog [(11,q),(5,q0),(4,q1),(3,q2),(9,q3),(10,q4),(2,q5),(0,q6)] [13] Tryz.f30 = some c30 := by kernel_rfl
theorem e32 : cFn Tryz.prog [(2,q),(3,q0),(4,q1),(0,q2)] [] Tryz.f32 = some c32 := by kernel_rfl
theorem e33 : cFn Tryz.prog [(4,q),(5,q0),(7,q1),(2,q2),(6,q3),(0,q4),(1,q5)] [15] Tryz.f33 = some c33 := by kernel_rfl
theorem e34 : cFn Tryz.prog [(2,q),(0,q0)] [] Tryz.f34 = some c34 := by kernel_rfl
theorem e35 : cFn Tryz.prog [(17,q),(5,q0),(54,q1),(12,q2),(16,q3),(18,q4),(20,q5),(10,q6),(15,q7),(53,q00),(8,q10),(9,q20),(0,q30),(2,q40),(11,q50),(13,q60),(32,q70),(33,q01),(34,q11),(35,q21),(36,q31),(37,q41),(38,q51),(39,q61),(40,q71),(41,q02),(42,q12),(43,q22),(44,q32),(45,q42),(46,q52),(47,q62),(48,q72),(49,q03),(50,q13),(1,q23),(3,q33)] [31] Tryz.f35 = some c35 := by kernel_rfl
theorem e36 : cFn Tryz.prog [(6,q),(7,q0),(9,q1),(3,q2),(8,q3),(0,q4),(1,q5),(2,q6)] [17] Tryz.f36 = some c36 := by kernel_rfl
theorem e37 : cFn Tryz.prog [(4,q),(5,q0),(6,q1),(7,q2),(2,q3),(0,q4),(1,q5)] [] Tryz.f37 = some c37 := by kernel_rfl
theorem e38 : cFn Tryz.prog [(2,q),(0,q0)] [] Tryz.f38 = some c38 := by kernel_rfl
theorem e39 : cFn Tryz.prog [(7,q),(6,q0),(0,q1),(4,q2),(5,q3),(2,q4),(3,q5)] [] Tryz.f39 = some c39 := by kernel_rfl
theorem e41 : cFn Tryz.prog [(1,q),(2,q0),(3,q1),(4,q2),(5,q3),(6,q4),(7,q5),(8,q6),(9,q7),(0,q00)] [] Tryz.f41 = some c41 := by kernel_rfl
theorem e44 : cFn Tryz.prog [(1,q),(2,q0),(3,q1),(4,q2),(5,q3),(6,q4),(7,q5),(8,q6),(9,q7),(0,q00)] [] Tryz.f44 = some c44 := by kernel_rfl
theorem e46 : cFn Tryz.prog [(5,q),(2,q0),(27,q1),(28,q2),(29,q3),(30,q4),(31,q5),(32,q6),(33,q7),(34,q00),(35,q10),(36,q20),(37,q30),(4,q40),(3,q50),(0,q60),(1,q70)] [] Tryz.f46 = some c46 := by kernel_rfl
theorem e47 : cFn Tryz.prog [(2,q),(3,q0),(4,q1),(5,q2),(6,q3),(7,q4),(8,q5),(9,q6),(10,q7),(11,q00),(12,q10),(13,q20),(14,q30),(15,q40),(0,q50),(1,q60)] [] Tryz.f47 = some c47 := by kernel_rfl
theorem e48 : cFn Tryz.prog [(2,q),(0,q0)] [] Tryz.f48 = some c48 := by kernel_rfl
theorem e49 : cFn Tryz.prog [(4,q),(5,q0),(3,q1),(0,q2),(6,q3),(7,q4),(9,q5),(8,q6),(12,q7),(13,q00),(14,q10),(15,q20),(16,q30),(17,q40),(18,q50),(19,q60),(1,q70)] [25,31,42] Tryz.f49 = some c49 := by kernel_rfl
theorem e50 : cFn Tryz.prog [(2,q),(3,q0),(4,q1),(5,q2),(36,q3),(37,q4),(38,q5),(39,q6),(40,q7),(41,q00),(42,q10),(43,q20),(44,q30),(45,q40),(46,q50),(47,q60),(48,q70),(49,q01),(50,q11),(51,q21),(52,q31),(53,q41),(0,q51),(1,q61)] [] Tryz.f50 = some c50 := by kernel_rfl
theorem e51 : cFn Tryz.prog [(2,q),(0,q0)] [] Tryz.f51 = some c51 := by kernel_rfl
theorem e52 : cFn Tryz.prog [(3,q),(6,q0),(0,q1),(2,q2),(4,q3),(5,q4),(34,q5),(35,q6),(36,q7),(37,q00),(38,q10),(39,q20)] [] Tryz.f52 = some c52 := by kernel_rfl
theorem e53 : cFn Tryz.prog [(1,q),(0,q0),(7,q1),(8,q2),(9,q3),(10,q4),(4,q5)] [] Tryz.f53 = some c53 := by kernel_rfl
theorem e54 : cFn Tryz.prog [(6,q),(0,q0),(4,q1),(5,q2),(7,q3),(1,q4),(8,q5)] [] Tryz.f54 = some c54 := by kernel_rfl
theorem e56 : cFn Tryz.prog [(72,q),(97,q0),(15,q1),(12,q2),(13,q3),(101,q4),(102,q5),(103,q6),(104,q7),(105,q00),(106,q10),(107,q20),(108,q30),(109,q40),(110,q50),(111,q60),(112,q70),(7,q01),(95,q11),(71,q21),(96,q31),(11,q41),(34,q51),(10,q61),(6,q71),(8,q02),(9,q12),(32,q22),(33,q32),(2,q42),(3,q52),(1,q62),(4,q72),(5,q03),(28,q13),(26,q23),(27,q33),(29,q43),(30,q53),(31,q63),(0,q73)] [23] Tryz.f56 = some c56 := by kernel_rfl
theorem e57 : cFn Tryz.prog [(49,q),(11,q0),(10,q1),(52,q2),(53,q3),(54,q4),(55,q5),(56,q6),(57,q7),(58,q00),(59,q10),(60,q20),(61,q30),(8,q40),(48,q50),(9,q60),(21,q70),(0,q01),(2,q11),(3,q21),(4,q31),(6,q41),(7,q51),(19,q61),(20,q71)] [] Tryz.f57 = some c57 := by kernel_rfl
theorem e58 : cFn Tryz.prog [(2,q),(0,q0)] [] Tryz.f58 = some c58 := by kernel_rfl
theorem e59 : cFn Tryz.prog [(8,q),(6,q0),(22,q1),(7,q2),(0,q3),(4,q4),(41,q5),(42,q6),(43,q7),(44,q00),(45,q10),(46,q20),(47,q30),(48,q40),(49,q50),(50,q60),(51,q70),(52,q01),(53,q11),(54,q21),(55,q31),(56,q41),(21,q51),(5,q61),(14,q71),(13,q02),(1,q12),(2,q22)] [] Tryz.f59 = some c59 := by kernel_rfl
theorem e60 : cFn Tryz.prog [(7,q),(8,q0),(1,q1),(2,q2),(3,q3),(5,q4),(0,q5)] [] Tryz.f60 = some c60 := by kernel_rfl
theorem e61 : cFn Tryz.prog [(4,q),(5,q0),(7,q1),(0,q2),(6,q3),(1,q4)] [] Tryz.f61 = some c61 := by kernel_rfl
def L0 : List (Nat × CFn) := [(4,c4),(6,c6),(8,c8),(9,c9),(14,c14),(16,c16),(18,c18),(19,c19),(20,c20),(21,c21),(22,c22),(23,c23),(24,c24),(29,c29),(30,c30),(32,c32),(33,c33),(34,c34),(35,c35),(36,c36),(37,c37),(38,c38),(39,c39),(41,c41),(44,c44),(46,c46),(47,c47),(48,c48),(49,c49),(50,c50),(51,c51),(52,c52),(53,c53),(54,c54),(56,c56),(57,c57),(58,c58),(59,c59),(60,c60),(61,c61)]
theorem g0 : ∀ x ∈ L0, Good Tryz.prog x := List.forall_mem_cons.2 ⟨⟨_, _, _, Tryz.func4, e4⟩, List.forall_mem_cons.2 ⟨⟨_, _, _, Tryz.func6, e6⟩, List.forall_mem_cons.2 ⟨⟨_, _, _, Tryz.func8, e8⟩, List.forall_mem_cons.2 ⟨⟨_, _, _, Tryz.func9, e9⟩, List.forall_mem_cons.2 ⟨⟨_, _, _, Tryz.func14, e14⟩, List.forall_mem_cons.2 ⟨⟨_, _, _, Tryz.func16, e16⟩, List.forall_mem_cons.2 ⟨⟨_, _, _, Tryz.func18, e18⟩, List.forall_mem_cons.2 ⟨⟨_, _, _, Tryz.func19, e19⟩, List.forall_mem_cons.2 ⟨⟨_, _, _, Tryz.func20, e20⟩, List.forall_mem_cons.2 ⟨⟨_, _, _, Tryz.func21, e21⟩, List.forall_mem_cons.2 ⟨⟨_, _, _, Tryz.func22, e22⟩, List.forall_mem_cons.2 ⟨⟨_, _, _, Tryz.func23, e23⟩, List.forall_mem_cons.2 ⟨⟨_, _, _, Tryz.func24, e24⟩, List.forall_mem_cons.2 ⟨⟨_, _, _, Tryz.func29, e29⟩, List.forall_mem_cons.2 ⟨⟨_, _, _, Tryz.func30, e30⟩, List.forall_mem_cons.2 ⟨⟨_, _, _, Tryz.func32, e32⟩, List.forall_mem_cons.2 ⟨⟨_, _, _, Tryz.func33, e33⟩, List.forall_mem_cons.2 ⟨⟨_, _, _, Tryz.func34, e34⟩, List.forall_mem_cons.2 ⟨⟨_, _, _, Tryz.func35, e35⟩, List.forall_mem_cons.2 ⟨⟨_, _, _, Tryz.func36, e36⟩, List.forall_mem_cons.2 ⟨⟨_, _, _, Tryz.func37, e37⟩, List.forall_mem_cons.2 ⟨⟨_, _, _, Tryz.func38, e38⟩, List.forall_mem_cons.2 ⟨⟨_, _, _, Tryz.func39, e39⟩, List.forall_mem_cons.2 ⟨⟨_, _, _, Tryz.func41, e41⟩, List.forall_mem_cons.2 ⟨⟨_, _, _, Tryz.func44, e44⟩, List.forall_mem_cons.2 ⟨⟨_, _, _, Tryz.func46, e46⟩, List.forall_mem_cons.2 ⟨⟨_, _, _, Tryz.func47, e47⟩, List.forall_mem_cons.2 ⟨⟨_, _, _, Tryz.func48, e48⟩, List.forall_mem_cons.2 ⟨⟨_, _, _, Tryz.func49, e49⟩, List.forall_mem_cons.2 ⟨⟨_, _, _, Tryz.func50, e50⟩, List.forall_mem_cons.2 ⟨⟨_, _, _, Tryz.func51, e51⟩, List.forall_mem_cons.2 ⟨⟨_, _, _, Tryz.func52, e52⟩, List.forall_mem_cons.2 ⟨⟨_, _, _, Tryz.func53, e53⟩, List.forall_mem_cons.2 ⟨⟨_, _, _, Tryz.func54, e54⟩, List.forall_mem_cons.2 ⟨⟨_, _, _, Tryz.func56, e56⟩, List.forall_mem_cons.2 ⟨⟨_, _, _, Tryz.func57, e57⟩, List.forall_mem_cons.2 ⟨⟨_, _, _, Tryz.func58, e58⟩, List.forall_mem_cons.2 ⟨⟨_, _, _, Tryz.func59, e59⟩, List.forall_mem_cons.2 ⟨⟨_, _, _, Tryz.func60, e60⟩, List.forall_mem_cons.2 ⟨⟨_, _, _, Tryz.func61, e61⟩, fun _ h => (by cases h)⟩⟩⟩⟩⟩⟩⟩⟩⟩⟩⟩⟩⟩⟩⟩⟩⟩⟩⟩⟩⟩⟩⟩⟩⟩⟩⟩⟩⟩⟩⟩⟩⟩⟩⟩⟩⟩⟩⟩⟩
theorem h9 : Good Tryz.prog (9, c9) := ⟨_, _, _, Tryz.func9, e9⟩
theorem h24 : Good Tryz.prog (24, c24) := ⟨_, _, _, Tryz.func24, e24⟩
theorem h56 : Good Tryz.prog (56, c56) := ⟨_, _, _, Tryz.func56, e56⟩
theorem h61 : Good Tryz.prog (61, c61) := ⟨_, _, _, Tryz.func61, e61⟩
end Go.Ex.KP
