/- The table's functions are the compiled functions of the program, a part of them. Conditions: none. -/
import Derived.Test.YtajoeeppiomfkaaGreatDoorPTabC
import Derived.Test.YtajoeeppiomfkaaGreatDoorExSoundB
import Derived.Test.YtajoeeppiomfkaaGreatDoorProg
import Derived.KernelRfl
set_option maxRecDepth 100000
namespace Go.Ex.KP
open Go.Proofs
theorem e329 : cFn Tryz.prog [(6,q),(0,q0),(1,q1),(2,q2)] [] Tryz.f329 = some c329 := by kernel_rfl
theorem e330 : cFn Tryz.prog [(1,q),(2,q0),(3,q1),(0,q2)] [] Tryz.f330 = some c330 := by kernel_rfl
theorem e331 : cFn Tryz.prog [(8,q),(5,q0),(4,q1),(0,q2),(7,q3),(1,q4)] [] Tryz.f331 = some c331 := by kernel_rfl
theorem e337 : cFn Tryz.prog [(4,q),(2,q0),(3,q1),(0,q2)] [] Tryz.f337 = some c337 := by kernel_rfl
theorem e338 : cFn Tryz.prog [(0,q),(4,q0),(1,q1)] [] Tryz.f338 = some c338 := by kernel_rfl
theorem e339 : cFn Tryz.prog [(2,q),(0,q0)] [] Tryz.f339 = some c339 := by kernel_rfl
theorem e340 : cFn Tryz.prog [(9,q),(0,q0),(10,q1),(7,q2),(25,q3),(26,q4),(27,q5),(28,q6),(29,q7),(30,q00),(31,q10),(32,q20),(33,q30),(34,q40),(35,q50),(8,q60),(1,q70),(2,q01),(6,q11),(11,q21)] [] Tryz.f340 = some c340 := by kernel_rfl
theorem e341 : cFn Tryz.prog [(0,q),(4,q0),(1,q1)] [] Tryz.f341 = some c341 := by kernel_rfl
theorem e342 : cFn Tryz.prog [(11,q),(9,q0),(10,q1),(24,q2),(25,q3),(26,q4),(27,q5),(28,q6),(29,q7),(30,q00),(31,q10),(0,q20),(4,q30),(39,q40),(2,q50),(6,q60),(7,q70),(8,q01),(35,q11),(36,q21),(37,q31),(38,q41),(40,q51),(41,q61),(42,q71),(43,q02),(44,q12),(45,q22),(46,q32),(47,q42),(48,q52),(1,q62)] [14] Tryz.f342 = some c342 := by kernel_rfl
theorem e343 : cFn Tryz.prog [(2,q),(3,q0),(4,q1),(5,q2),(6,q3),(7,q4),(8,q5),(9,q6),(10,q7),(11,q00),(12,q10),(13,q20),(14,q30),(15,q40),(16,q50),(0,q60),(1,q70)] [] Tryz.f343 = some c343 := by kernel_rfl
theorem e344 : cFn Tryz.prog [(3,q),(0,q0),(1,q1)] [] Tryz.f344 = some c344 := by kernel_rfl
theorem e345 : cFn Tryz.prog [(15,q),(19,q0),(7,q1),(9,q2),(5,q3),(8,q4),(11,q5),(20,q6),(21,q7),(22,q00),(23,q10),(24,q20),(25,q30),(26,q40),(13,q50),(1,q60),(14,q70),(4,q01),(0,q11)] [] Tryz.f345 = some c345 := by kernel_rfl
theorem e346 : cFn Tryz.prog [(5,q),(6,q0),(1,q1),(4,q2),(0,q3)] [15,29] Tryz.f346 = some c346 := by kernel_rfl
theorem e357 : cFn Tryz.prog [(4,q),(5,q0),(7,q1),(2,q2),(6,q3),(0,q4),(1,q5)] [15] Tryz.f357 = some c357 := by kernel_rfl
theorem e358 : cFn Tryz.prog [(1,q),(2,q0),(0,q1)] [] Tryz.f358 = some c358 := by kernel_rfl
theorem e360 : cFn Tryz.prog [(23,q),(2,q0),(8,q1),(6,q2),(21,q3),(22,q4),(1,q5),(0,q6),(5,q7)] [] Tryz.f360 = some c360 := by kernel_rfl
theorem e361 : cFn Tryz.prog [(2,q),(0,q0)] [] Tryz.f361 = some c361 := by kernel_rfl
theorem e362 : cFn Tryz.prog [(8,q),(5,q0),(2,q1),(3,q2),(6,q3),(7,q4),(0,q5)] [] Tryz.f362 = some c362 := by kernel_rfl
theorem e363 : cFn Tryz.prog [(5,q),(2,q0),(3,q1),(1,q2),(4,q3),(0,q4)] [] Tryz.f363 = some c363 := by kernel_rfl
theorem e364 : cFn Tryz.prog [(4,q),(5,q0),(6,q1),(0,q2),(1,q3)] [11] Tryz.f364 = some c364 := by kernel_rfl
theorem e365 : cFn Tryz.prog [(4,q),(5,q0),(1,q1),(6,q2),(0,q3)] [11] Tryz.f365 = some c365 := by kernel_rfl
theorem e366 : cFn Tryz.prog [(79,q),(8,q0),(19,q1),(77,q2),(78,q3),(12,q4),(2,q5),(68,q6),(16,q7),(17,q00),(0,q10),(66,q20),(67,q30),(10,q40),(13,q50),(9,q60),(14,q70),(1,q01),(6,q11),(7,q21)] [] Tryz.f366 = some c366 := by kernel_rfl
theorem e367 : cFn Tryz.prog [(1,q),(4,q0),(0,q1)] [] Tryz.f367 = some c367 := by kernel_rfl
theorem e368 : cFn Tryz.prog [(4,q),(0,q0),(1,q1)] [] Tryz.f368 = some c368 := by kernel_rfl
theorem e371 : cFn Tryz.prog [(2,q),(0,q0),(3,q1)] [] Tryz.f371 = some c371 := by kernel_rfl
theorem e373 : cFn Tryz.prog [(13,q),(6,q0),(7,q1),(5,q2),(11,q3),(12,q4),(0,q5),(4,q6),(1,q7)] [] Tryz.f373 = some c373 := by kernel_rfl
theorem e374 : cFn Tryz.prog [(4,q),(5,q0),(0,q1),(1,q2)] [] Tryz.f374 = some c374 := by kernel_rfl
theorem e375 : cFn Tryz.prog [(61,q),(11,q0),(9,q1),(7,q2),(0,q3),(12,q4),(10,q5),(59,q6),(60,q7),(2,q00),(6,q10),(8,q20),(1,q30)] [20] Tryz.f375 = some c375 := by kernel_rfl
theorem e376 : cFn Tryz.prog [(19,q),(10,q0),(9,q1),(1,q2),(2,q3),(18,q4),(0,q5),(3,q6),(8,q7)] [] Tryz.f376 = some c376 := by kernel_rfl
theorem e377 : cFn Tryz.prog [(6,q),(0,q0),(1,q1),(2,q2)] [] Tryz.f377 = some c377 := by kernel_rfl
theorem e383 : cFn Tryz.prog [(4,q),(5,q0),(1,q1),(0,q2),(6,q3),(7,q4)] [] Tryz.f383 = some c383 := by kernel_rfl
theorem e384 : cFn Tryz.prog [(1,q),(2,q0),(75,q1),(0,q2),(14,q3),(11,q4),(3,q5),(8,q6),(12,q7),(10,q00),(16,q10),(17,q20),(18,q30),(9,q40),(13,q50),(15,q60),(73,q70),(74,q01),(76,q11),(77,q21),(78,q31),(79,q41),(80,q51),(81,q61),(82,q71),(83,q02),(84,q12),(85,q22),(86,q32),(87,q42)] [] Tryz.f384 = some c384 := by kernel_rfl
theorem e385 : cFn Tryz.prog [(6,q),(5,q0),(0,q1),(1,q2),(13,q3),(14,q4),(15,q5),(16,q6),(17,q7),(18,q00),(19,q10),(20,q20),(21,q30),(22,q40),(23,q50),(24,q60),(25,q70),(4,q01)] [] Tryz.f385 = some c385 := by kernel_rfl
theorem e387 : cFn Tryz.prog [(2,q),(1,q0),(8,q1),(0,q2),(6,q3)] [20] Tryz.f387 = some c387 := by kernel_rfl
theorem e388 : cFn Tryz.prog [(5,q),(1,q0),(0,q1),(6,q2),(7,q3),(8,q4),(4,q5)] [] Tryz.f388 = some c388 := by kernel_rfl
theorem e389 : cFn Tryz.prog [(0,q),(11,q0),(9,q1),(60,q2),(8,q3),(2,q4),(1,q5),(12,q6),(58,q7),(59,q00),(6,q10),(7,q20)] [] Tryz.f389 = some c389 := by kernel_rfl
theorem e390 : cFn Tryz.prog [(1,q),(83,q0),(2,q1),(0,q2),(4,q3),(16,q4),(13,q5),(3,q6),(10,q7),(14,q00),(12,q10),(18,q20),(19,q30),(20,q40),(11,q50),(15,q60),(17,q70),(81,q01),(82,q11),(84,q21),(85,q31),(86,q41),(87,q51),(88,q61),(89,q71),(90,q02),(91,q12),(92,q22),(93,q32),(94,q42),(95,q52),(96,q62),(97,q72)] [] Tryz.f390 = some c390 := by kernel_rfl
theorem e391 : cFn Tryz.prog [(0,q),(2,q0)] [] Tryz.f391 = some c391 := by kernel_rfl
theorem e392 : cFn Tryz.prog [(0,q),(4,q0),(1,q1)] [] Tryz.f392 = some c392 := by kernel_rfl
theorem e393 : cFn Tryz.prog [(2,q),(0,q0)] [] Tryz.f393 = some c393 := by kernel_rfl
def L7 : List (Nat × CFn) := [(329,c329),(330,c330),(331,c331),(337,c337),(338,c338),(339,c339),(340,c340),(341,c341),(342,c342),(343,c343),(344,c344),(345,c345),(346,c346),(357,c357),(358,c358),(360,c360),(361,c361),(362,c362),(363,c363),(364,c364),(365,c365),(366,c366),(367,c367),(368,c368),(371,c371),(373,c373),(374,c374),(375,c375),(376,c376),(377,c377),(383,c383),(384,c384),(385,c385),(387,c387),(388,c388),(389,c389),(390,c390),(391,c391),(392,c392),(393,c393)]
theorem g7 : ∀ x ∈ L7, Good Tryz.prog x := List.forall_mem_cons.2 ⟨⟨_, _, _, Tryz.func329, e329⟩, List.forall_mem_cons.2 ⟨⟨_, _, _, Tryz.func330, e330⟩, List.forall_mem_cons.2 ⟨⟨_, _, _, Tryz.func331, e331⟩, List.forall_mem_cons.2 ⟨⟨_, _, _, Tryz.func337, e337⟩, List.forall_mem_cons.2 ⟨⟨_, _, _, Tryz.func338, e338⟩, List.forall_mem_cons.2 ⟨⟨_, _, _, Tryz.func339, e339⟩, List.forall_mem_cons.2 ⟨⟨_, _, _, Tryz.func340, e340⟩, List.forall_mem_cons.2 ⟨⟨_, _, _, Tryz.func341, e341⟩, List.forall_mem_cons.2 ⟨⟨_, _, _, Tryz.func342, e342⟩, List.forall_mem_cons.2 ⟨⟨_, _, _, Tryz.func343, e343⟩, List.forall_mem_cons.2 ⟨⟨_, _, _, Tryz.func344, e344⟩, List.forall_mem_cons.2 ⟨⟨_, _, _, Tryz.func345, e345⟩, List.forall_mem_cons.2 ⟨⟨_, _, _, Tryz.func346, e346⟩, List.forall_mem_cons.2 ⟨⟨_, _, _, Tryz.func357, e357⟩, List.forall_mem_cons.2 ⟨⟨_, _, _, Tryz.func358, e358⟩, List.forall_mem_cons.2 ⟨⟨_, _, _, Tryz.func360, e360⟩, List.forall_mem_cons.2 ⟨⟨_, _, _, Tryz.func361, e361⟩, List.forall_mem_cons.2 ⟨⟨_, _, _, Tryz.func362, e362⟩, List.forall_mem_cons.2 ⟨⟨_, _, _, Tryz.func363, e363⟩, List.forall_mem_cons.2 ⟨⟨_, _, _, Tryz.func364, e364⟩, List.forall_mem_cons.2 ⟨⟨_, _, _, Tryz.func365, e365⟩, List.forall_mem_cons.2 ⟨⟨_, _, _, Tryz.func366, e366⟩, List.forall_mem_cons.2 ⟨⟨_, _, _, Tryz.func367, e367⟩, List.forall_mem_cons.2 ⟨⟨_, _, _, Tryz.func368, e368⟩, List.forall_mem_cons.2 ⟨⟨_, _, _, Tryz.func371, e371⟩, List.forall_mem_cons.2 ⟨⟨_, _, _, Tryz.func373, e373⟩, List.forall_mem_cons.2 ⟨⟨_, _, _, Tryz.func374, e374⟩, List.forall_mem_cons.2 ⟨⟨_, _, _, Tryz.func375, e375⟩, List.forall_mem_cons.2 ⟨⟨_, _, _, Tryz.func376, e376⟩, List.forall_mem_cons.2 ⟨⟨_, _, _, Tryz.func377, e377⟩, List.forall_mem_cons.2 ⟨⟨_, _, _, Tryz.func383, e383⟩, List.forall_mem_cons.2 ⟨⟨_, _, _, Tryz.func384, e384⟩, List.forall_mem_cons.2 ⟨⟨_, _, _, Tryz.func385, e385⟩, List.forall_mem_cons.2 ⟨⟨_, _, _, Tryz.func387, e387⟩, List.forall_mem_cons.2 ⟨⟨_, _, _, Tryz.func388, e388⟩, List.forall_mem_cons.2 ⟨⟨_, _, _, Tryz.func389, e389⟩, List.forall_mem_cons.2 ⟨⟨_, _, _, Tryz.func390, e390⟩, List.forall_mem_cons.2 ⟨⟨_, _, _, Tryz.func391, e391⟩, List.forall_mem_cons.2 ⟨⟨_, _, _, Tryz.func392, e392⟩, List.forall_mem_cons.2 ⟨⟨_, _, _, Tryz.func393, e393⟩, fun _ h => (by cases h)⟩⟩⟩⟩⟩⟩⟩⟩⟩⟩⟩⟩⟩⟩⟩⟩⟩⟩⟩⟩⟩⟩⟩⟩⟩⟩⟩⟩⟩⟩⟩⟩⟩⟩⟩⟩⟩⟩⟩⟩
end Go.Ex.KP
