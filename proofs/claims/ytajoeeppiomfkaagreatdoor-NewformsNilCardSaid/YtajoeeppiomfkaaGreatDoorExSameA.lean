/- The table's functions are the compiled functions of the program, a part of them. Conditions: none. -/
import Derived.Test.YtajoeeppiomfkaaGreatDoorExTabC
import Derived.Test.YtajoeeppiomfkaaGreatDoorExSoundB
import Derived.Test.YtajoeeppiomfkaaGreatDoorProg
import Derived.KernelRfl
set_option maxRecDepth 100000
namespace Go.Ex.K
open Go.Proofs
theorem e3 : cFn Tryz.prog [(1,q),(3,q0),(2,q1),(4,q2),(6,q3),(10,q4),(12,q5),(5,q6),(7,q7),(8,q00),(9,q10),(11,q20),(13,q30),(14,q40),(15,q50),(0,q60)] [] Tryz.f3 = some c3 := by kernel_rfl
theorem e5 : cFn Tryz.prog [(45,q),(39,q0),(1,q1),(0,q2),(35,q3),(5,q4),(2,q5),(3,q6),(4,q7),(6,q00),(33,q10),(34,q20),(36,q30),(37,q40),(38,q50),(40,q60),(41,q70),(42,q01),(43,q11),(44,q21),(46,q31),(47,q41),(48,q51),(49,q61),(50,q71),(51,q02)] [] Tryz.f5 = some c5 := by kernel_rfl
theorem e6 : cFn Tryz.prog [(4,q),(5,q0),(6,q1),(0,q2),(1,q3)] [] Tryz.f6 = some c6 := by kernel_rfl
theorem e7 : cFn Tryz.prog [(7,q),(4,q0),(5,q1),(6,q2),(0,q3),(1,q4)] [] Tryz.f7 = some c7 := by kernel_rfl
theorem e8 : cFn Tryz.prog [(15,q),(65,q0),(17,q1),(82,q2),(11,q3),(12,q4),(16,q5),(83,q6),(84,q7),(85,q00),(86,q10),(87,q20),(88,q30),(89,q40),(90,q50),(91,q60),(92,q70),(93,q01),(94,q11),(6,q21),(7,q31),(0,q41),(13,q51),(63,q61),(64,q71),(9,q02),(2,q12),(8,q22),(55,q32),(1,q42),(56,q52),(57,q62),(58,q72),(59,q03),(60,q13),(61,q23),(62,q33)] [23,81,97] Tryz.f8 = some c8 := by kernel_rfl
theorem e9 : cFn Tryz.prog [(6,q),(7,q0),(9,q1),(0,q2),(1,q3),(8,q4),(2,q5)] [] Tryz.f9 = some c9 := by kernel_rfl
theorem e10 : cFn Tryz.prog [(17,q),(16,q0),(20,q1),(21,q2),(92,q3),(11,q4),(18,q5),(93,q6),(94,q7),(95,q00),(96,q10),(97,q20),(98,q30),(99,q40),(100,q50),(101,q60),(102,q70),(8,q01),(9,q11),(3,q21),(14,q31),(15,q41),(2,q51),(12,q61),(0,q71),(10,q02),(1,q12)] [] Tryz.f10 = some c10 := by kernel_rfl
theorem e11 : cFn Tryz.prog [(6,q),(7,q0),(0,q1),(8,q2),(10,q3),(49,q4),(1,q5),(2,q6),(36,q7),(37,q00),(38,q10),(39,q20),(40,q30),(41,q40),(42,q50),(43,q60),(44,q70),(45,q01),(46,q11),(47,q21),(48,q31),(50,q41),(51,q51)] [16,35] Tryz.f11 = some c11 := by kernel_rfl
theorem e12 : cFn Tryz.prog [(2,q),(0,q0)] [] Tryz.f12 = some c12 := by kernel_rfl
theorem e13 : cFn Tryz.prog [(13,q),(5,q0),(3,q1),(11,q2),(12,q3),(2,q4),(0,q5)] [] Tryz.f13 = some c13 := by kernel_rfl
theorem e14 : cFn Tryz.prog [(2,q),(0,q0)] [] Tryz.f14 = some c14 := by kernel_rfl
theorem e15 : cFn Tryz.prog [(2,q),(3,q0),(4,q1),(0,q2),(1,q3)] [] Tryz.f15 = some c15 := by kernel_rfl
theorem e16 : cFn Tryz.prog [(2,q),(3,q0),(4,q1),(0,q2),(1,q3)] [] Tryz.f16 = some c16 := by kernel_rfl
theorem e17 : cFn Tryz.prog [(2,q),(3,q0),(4,q1),(0,q2),(1,q3)] [] Tryz.f17 = some c17 := by kernel_rfl
theorem e24 : cFn Tryz.prog [(5,q),(2,q0),(3,q1),(6,q2),(7,q3),(1,q4),(4,q5),(8,q6),(10,q7),(9,q00),(0,q10)] [18,26,44,51] Tryz.f24 = some c24 := by kernel_rfl
theorem e25 : cFn Tryz.prog [(5,q),(0,q0),(17,q1),(18,q2),(19,q3),(20,q4),(21,q5),(22,q6),(23,q7),(24,q00),(25,q10),(26,q20),(4,q30),(1,q40)] [] Tryz.f25 = some c25 := by kernel_rfl
theorem e26 : cFn Tryz.prog [(4,q),(3,q0),(0,q1),(2,q2)] [] Tryz.f26 = some c26 := by kernel_rfl
theorem e27 : cFn Tryz.prog [(5,q),(0,q0),(17,q1),(18,q2),(19,q3),(20,q4),(21,q5),(22,q6),(23,q7),(24,q00),(25,q10),(26,q20),(4,q30),(1,q40)] [] Tryz.f27 = some c27 := by kernel_rfl
theorem e28 : cFn Tryz.prog [(4,q),(3,q0),(0,q1),(2,q2)] [] Tryz.f28 = some c28 := by kernel_rfl
theorem e29 : cFn Tryz.prog [(4,q),(0,q0),(1,q1)] [] Tryz.f29 = some c29 := by kernel_rfl
theorem e30 : cFn Tryz.prog [(11,q),(5,q0),(4,q1),(3,q2),(9,q3),(10,q4),(2,q5),(0,q6)] [13] Tryz.f30 = some c30 := by kernel_rfl
theorem e32 : cFn Tryz.prog [(2,q),(3,q0),(4,q1),(0,q2)] [] Tryz.f32 = some c32 := by kernel_rfl
theorem e33 : cFn Tryz.prog [(4,q),(5,q0),(7,q1),(2,q2),(6,q3),(0,q4),(1,q5)] [15] Tryz.f33 = some c33 := by kernel_rfl
theorem e34 : cFn Tryz.prog [(2,q),(0,q0)] [] Tryz.f34 = some c34 := by kernel_rfl
theorem e35 : cFn Tryz.prog [(17,q),(5,q0),(54,q1),(12,q2),(16,q3),(18,q4),(20,q5),(10,q6),(15,q7),(53,q00),(8,q10),(9,q20),(0,q30),(2,q40),(11,q50),(13,q60),(32,q70),(33,q01),(34,q11),(35,q21),(36,q31),(37,q41),(38,q51),(39,q61),(40,q71),(41,q02),(42,q12),(43,q22),(44,q32),(45,q42),(46,q52),(47,q62),(48,q72),(49,q03),(50,q13),(1,q23),(3,q33)] [31] Tryz.f35 = some c35 := by kernel_rfl
theorem e36 : cFn Tryz.prog [(6,q),(7,q0),(9,q1),(3,q2),(8,q3),(0,q4),(1,q5),(2,q6)] [17] Tryz.f36 = some c36 := by kernel_rfl
theorem e38 : cFn Tryz.prog [(2,q),(0,q0)] [] Tryz.f38 = some c38 := by kernel_rfl
theorem e39 : cFn Tryz.prog [(7,q),(6,q0),(0,q1),(4,q2),(5,q3),(2,q4),(3,q5)] [] Tryz.f39 = some c39 := by kernel_rfl
theorem e41 : cFn Tryz.prog [(1,q),(2,q0),(3,q1),(4,q2),(5,q3),(6,q4),(7,q5),(8,q6),(9,q7),(0,q00)] [] Tryz.f41 = some c41 := by kernel_rfl
theorem e44 : cFn Tryz.prog [(1,q),(2,q0),(3,q1),(4,q2),(5,q3),(6,q4),(7,q5),(8,q6),(9,q7),(0,q00)] [] Tryz.f44 = some c44 := by kernel_rfl
theorem e45 : cFn Tryz.prog [(2,q),(3,q0),(4,q1),(0,q2),(1,q3)] [] Tryz.f45 = some c45 := by kernel_rfl
theorem e46 : cFn Tryz.prog [(5,q),(2,q0),(27,q1),(28,q2),(29,q3),(30,q4),(31,q5),(32,q6),(33,q7),(34,q00),(35,q10),(36,q20),(37,q30),(4,q40),(3,q50),(0,q60),(1,q70)] [] Tryz.f46 = some c46 := by kernel_rfl
theorem e47 : cFn Tryz.prog [(2,q),(3,q0),(4,q1),(5,q2),(6,q3),(7,q4),(8,q5),(9,q6),(10,q7),(11,q00),(12,q10),(13,q20),(14,q30),(15,q40),(0,q50),(1,q60)] [] Tryz.f47 = some c47 := by kernel_rfl
theorem e48 : cFn Tryz.prog [(2,q),(0,q0)] [] Tryz.f48 = some c48 := by kernel_rfl
theorem e49 : cFn Tryz.prog [(4,q),(5,q0),(3,q1),(0,q2),(6,q3),(7,q4),(9,q5),(8,q6),(12,q7),(13,q00),(14,q10),(15,q20),(16,q30),(17,q40),(18,q50),(19,q60),(1,q70)] [25,31,42] Tryz.f49 = some c49 := by kernel_rfl
theorem e50 : cFn Tryz.prog [(2,q),(3,q0),(4,q1),(5,q2),(36,q3),(37,q4),(38,q5),(39,q6),(40,q7),(41,q00),(42,q10),(43,q20),(44,q30),(45,q40),(46,q50),(47,q60),(48,q70),(49,q01),(50,q11),(51,q21),(52,q31),(53,q41),(0,q51),(1,q61)] [] Tryz.f50 = some c50 := by kernel_rfl
theorem e51 : cFn Tryz.prog [(2,q),(0,q0)] [] Tryz.f51 = some c51 := by kernel_rfl
theorem e52 : cFn Tryz.prog [(3,q),(6,q0),(0,q1),(2,q2),(4,q3),(5,q4),(34,q5),(35,q6),(36,q7),(37,q00),(38,q10),(39,q20)] [] Tryz.f52 = some c52 := by kernel_rfl
theorem e53 : cFn Tryz.prog [(1,q),(0,q0),(7,q1),(8,q2),(9,q3),(10,q4),(4,q5)] [] Tryz.f53 = some c53 := by kernel_rfl
theorem e54 : cFn Tryz.prog [(6,q),(0,q0),(4,q1),(5,q2),(7,q3),(1,q4),(8,q5)] [] Tryz.f54 = some c54 := by kernel_rfl
def L0 : List (Nat × CFn) := [(3,c3),(5,c5),(6,c6),(7,c7),(8,c8),(9,c9),(10,c10),(11,c11),(12,c12),(13,c13),(14,c14),(15,c15),(16,c16),(17,c17),(24,c24),(25,c25),(26,c26),(27,c27),(28,c28),(29,c29),(30,c30),(32,c32),(33,c33),(34,c34),(35,c35),(36,c36),(38,c38),(39,c39),(41,c41),(44,c44),(45,c45),(46,c46),(47,c47),(48,c48),(49,c49),(50,c50),(51,c51),(52,c52),(53,c53),(54,c54)]
theorem g0 : ∀ x ∈ L0, Good Tryz.prog x := List.forall_mem_cons.2 ⟨⟨_, _, _, Tryz.func3, e3⟩, List.forall_mem_cons.2 ⟨⟨_, _, _, Tryz.func5, e5⟩, List.forall_mem_cons.2 ⟨⟨_, _, _, Tryz.func6, e6⟩, List.forall_mem_cons.2 ⟨⟨_, _, _, Tryz.func7, e7⟩, List.forall_mem_cons.2 ⟨⟨_, _, _, Tryz.func8, e8⟩, List.forall_mem_cons.2 ⟨⟨_, _, _, Tryz.func9, e9⟩, List.forall_mem_cons.2 ⟨⟨_, _, _, Tryz.func10, e10⟩, List.forall_mem_cons.2 ⟨⟨_, _, _, Tryz.func11, e11⟩, List.forall_mem_cons.2 ⟨⟨_, _, _, Tryz.func12, e12⟩, List.forall_mem_cons.2 ⟨⟨_, _, _, Tryz.func13, e13⟩, List.forall_mem_cons.2 ⟨⟨_, _, _, Tryz.func14, e14⟩, List.forall_mem_cons.2 ⟨⟨_, _, _, Tryz.func15, e15⟩, List.forall_mem_cons.2 ⟨⟨_, _, _, Tryz.func16, e16⟩, List.forall_mem_cons.2 ⟨⟨_, _, _, Tryz.func17, e17⟩, List.forall_mem_cons.2 ⟨⟨_, _, _, Tryz.func24, e24⟩, List.forall_mem_cons.2 ⟨⟨_, _, _, Tryz.func25, e25⟩, List.forall_mem_cons.2 ⟨⟨_, _, _, Tryz.func26, e26⟩, List.forall_mem_cons.2 ⟨⟨_, _, _, Tryz.func27, e27⟩, List.forall_mem_cons.2 ⟨⟨_, _, _, Tryz.func28, e28⟩, List.forall_mem_cons.2 ⟨⟨_, _, _, Tryz.func29, e29⟩, List.forall_mem_cons.2 ⟨⟨_, _, _, Tryz.func30, e30⟩, List.forall_mem_cons.2 ⟨⟨_, _, _, Tryz.func32, e32⟩, List.forall_mem_cons.2 ⟨⟨_, _, _, Tryz.func33, e33⟩, List.forall_mem_cons.2 ⟨⟨_, _, _, Tryz.func34, e34⟩, List.forall_mem_cons.2 ⟨⟨_, _, _, Tryz.func35, e35⟩, List.forall_mem_cons.2 ⟨⟨_, _, _, Tryz.func36, e36⟩, List.forall_mem_cons.2 ⟨⟨_, _, _, Tryz.func38, e38⟩, List.forall_mem_cons.2 ⟨⟨_, _, _, Tryz.func39, e39⟩, List.forall_mem_cons.2 ⟨⟨_, _, _, Tryz.func41, e41⟩, List.forall_mem_cons.2 ⟨⟨_, _, _, Tryz.func44, e44⟩, List.forall_mem_cons.2 ⟨⟨_, _, _, Tryz.func45, e45⟩, List.forall_mem_cons.2 ⟨⟨_, _, _, Tryz.func46, e46⟩, List.forall_mem_cons.2 ⟨⟨_, _, _, Tryz.func47, e47⟩, List.forall_mem_cons.2 ⟨⟨_, _, _, Tryz.func48, e48⟩, List.forall_mem_cons.2 ⟨⟨_, _, _, Tryz.func49, e49⟩, List.forall_mem_cons.2 ⟨⟨_, _, _, Tryz.func50, e50⟩, List.forall_mem_cons.2 ⟨⟨_, _, _, Tryz.func51, e51⟩, List.forall_mem_cons.2 ⟨⟨_, _, _, Tryz.func52, e52⟩, List.forall_mem_cons.2 ⟨⟨_, _, _, Tryz.func53, e53⟩, List.forall_mem_cons.2 ⟨⟨_, _, _, Tryz.func54, e54⟩, fun _ h => (by cases h)⟩⟩⟩⟩⟩⟩⟩⟩⟩⟩⟩⟩⟩⟩⟩⟩⟩⟩⟩⟩⟩⟩⟩⟩⟩⟩⟩⟩⟩⟩⟩⟩⟩⟩⟩⟩⟩⟩⟩⟩
theorem h24 : Good Tryz.prog (24, c24) := ⟨_, _, _, Tryz.func24, e24⟩
theorem h35 : Good Tryz.prog (35, c35) := ⟨_, _, _, Tryz.func35, e35⟩
end Go.Ex.K
