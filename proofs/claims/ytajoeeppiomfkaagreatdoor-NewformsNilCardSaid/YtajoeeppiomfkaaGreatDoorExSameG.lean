/- The table's functions are the compiled functions of the program, a part of them. Conditions: none. -/
import Derived.Test.YtajoeeppiomfkaaGreatDoorExTabC
import Derived.Test.YtajoeeppiomfkaaGreatDoorExSoundB
import Derived.Test.YtajoeeppiomfkaaGreatDoorProg
import Derived.KernelRfl
set_option maxRecDepth 100000
namespace Go.Ex.K
open Go.Proofs
theorem e287 : cFn Tryz.prog [(0,q),(2,q0)] [] Tryz.f287 = some c287 := by kernel_rfl
theorem e288 : cFn Tryz.prog [(4,q),(5,q0),(2,q1),(3,q2),(9,q3),(7,q4),(8,q5),(6,q6),(0,q7),(1,q00)] [] Tryz.f288 = some c288 := by kernel_rfl
theorem e289 : cFn Tryz.prog [(36,q),(7,q0),(6,q1),(41,q2),(42,q3),(43,q4),(44,q5),(45,q6),(46,q7),(47,q00),(48,q10),(49,q20),(1,q30),(2,q40),(34,q50),(35,q60),(3,q70),(5,q01),(0,q11)] [38] Tryz.f289 = some c289 := by kernel_rfl
theorem e290 : cFn Tryz.prog [(5,q),(1,q0),(4,q1),(9,q2),(3,q3),(8,q4),(2,q5),(0,q6)] [] Tryz.f290 = some c290 := by kernel_rfl
theorem e291 : cFn Tryz.prog [(2,q),(0,q0)] [] Tryz.f291 = some c291 := by kernel_rfl
theorem e292 : cFn Tryz.prog [(4,q),(0,q0),(1,q1)] [] Tryz.f292 = some c292 := by kernel_rfl
theorem e293 : cFn Tryz.prog [(2,q),(1,q0),(0,q1)] [] Tryz.f293 = some c293 := by kernel_rfl
theorem e294 : cFn Tryz.prog [(6,q),(0,q0),(19,q1),(20,q2),(21,q3),(22,q4),(23,q5),(24,q6),(25,q7),(26,q00),(27,q10),(28,q20),(30,q30),(4,q40),(1,q50),(2,q60)] [] Tryz.f294 = some c294 := by kernel_rfl
theorem e295 : cFn Tryz.prog [(2,q),(0,q0),(4,q1),(13,q2),(14,q3),(15,q4),(16,q5),(17,q6),(18,q7),(19,q00),(20,q10),(21,q20),(22,q30)] [] Tryz.f295 = some c295 := by kernel_rfl
theorem e296 : cFn Tryz.prog [(14,q),(4,q0),(11,q1),(13,q2),(12,q3),(1,q4),(0,q5),(5,q6),(10,q7),(6,q00),(7,q10),(8,q20),(9,q30),(28,q40),(29,q50),(30,q60),(31,q70),(32,q01),(33,q11),(34,q21),(35,q31),(93,q41),(94,q51),(95,q61),(96,q71),(97,q02),(98,q12),(99,q22),(100,q32)] [] Tryz.f296 = some c296 := by kernel_rfl
theorem e297 : cFn Tryz.prog [(2,q),(0,q0)] [] Tryz.f297 = some c297 := by kernel_rfl
theorem e298 : cFn Tryz.prog [(6,q),(7,q0),(8,q1),(0,q2),(1,q3),(2,q4)] [] Tryz.f298 = some c298 := by kernel_rfl
theorem e299 : cFn Tryz.prog [(2,q),(0,q0)] [] Tryz.f299 = some c299 := by kernel_rfl
theorem e300 : cFn Tryz.prog [(6,q),(0,q0),(1,q1),(7,q2),(2,q3)] [] Tryz.f300 = some c300 := by kernel_rfl
theorem e301 : cFn Tryz.prog [(2,q),(0,q0)] [] Tryz.f301 = some c301 := by kernel_rfl
theorem e302 : cFn Tryz.prog [(2,q),(6,q0),(7,q1),(8,q2),(9,q3),(10,q4),(11,q5),(0,q6),(1,q7),(3,q00)] [] Tryz.f302 = some c302 := by kernel_rfl
theorem e303 : cFn Tryz.prog [(12,q),(9,q0),(10,q1),(11,q2),(7,q3),(25,q4),(0,q5),(23,q6),(24,q7),(2,q00),(3,q10),(4,q20),(5,q30)] [17] Tryz.f303 = some c303 := by kernel_rfl
theorem e304 : cFn Tryz.prog [(2,q),(0,q0),(1,q1)] [] Tryz.f304 = some c304 := by kernel_rfl
theorem e305 : cFn Tryz.prog [(53,q),(33,q0),(9,q1),(14,q2),(11,q3),(8,q4),(13,q5),(0,q6),(6,q7),(5,q00),(12,q10),(38,q20),(39,q30),(40,q40),(41,q50),(42,q60),(43,q70),(44,q01),(45,q11),(46,q21),(47,q31),(48,q41),(49,q51),(50,q61),(51,q71),(52,q02),(54,q12),(55,q22),(56,q32),(57,q42),(58,q52),(59,q62),(60,q72),(61,q03),(62,q13),(63,q23),(64,q33),(65,q43),(66,q53),(67,q63),(68,q73),(69,q04),(70,q14),(71,q24),(31,q34),(32,q44),(3,q54),(25,q64),(24,q74),(1,q05),(2,q15)] [] Tryz.f305 = some c305 := by kernel_rfl
theorem e306 : cFn Tryz.prog [(6,q),(7,q0),(0,q1),(1,q2),(2,q3),(8,q4)] [] Tryz.f306 = some c306 := by kernel_rfl
theorem e307 : cFn Tryz.prog [(4,q),(3,q0),(5,q1),(7,q2),(0,q3),(1,q4)] [] Tryz.f307 = some c307 := by kernel_rfl
theorem e308 : cFn Tryz.prog [(4,q),(5,q0),(1,q1),(6,q2),(7,q3),(0,q4)] [] Tryz.f308 = some c308 := by kernel_rfl
theorem e309 : cFn Tryz.prog [(8,q),(14,q0),(7,q1),(0,q2),(6,q3),(4,q4),(5,q5),(42,q6),(43,q7),(44,q00),(45,q10),(46,q20),(47,q30),(48,q40),(49,q50),(12,q60),(3,q70),(13,q01),(1,q11)] [16] Tryz.f309 = some c309 := by kernel_rfl
theorem e310 : cFn Tryz.prog [(8,q),(19,q0),(9,q1),(10,q2),(0,q3),(1,q4),(7,q5),(18,q6),(2,q7),(6,q00)] [] Tryz.f310 = some c310 := by kernel_rfl
theorem e311 : cFn Tryz.prog [(5,q),(3,q0),(0,q1),(1,q2),(2,q3)] [] Tryz.f311 = some c311 := by kernel_rfl
theorem e312 : cFn Tryz.prog [(2,q),(0,q0),(3,q1)] [] Tryz.f312 = some c312 := by kernel_rfl
theorem e313 : cFn Tryz.prog [(30,q),(12,q0),(10,q1),(4,q2),(5,q3),(28,q4),(29,q5),(6,q6),(0,q7),(1,q00),(8,q10)] [] Tryz.f313 = some c313 := by kernel_rfl
theorem e314 : cFn Tryz.prog [(5,q),(11,q0),(35,q1),(8,q2),(12,q3),(36,q4),(37,q5),(38,q6),(39,q7),(40,q00),(41,q10),(42,q20),(43,q30),(1,q40),(7,q50),(2,q60),(3,q70),(4,q01),(18,q11),(19,q21),(20,q31),(21,q41),(22,q51),(23,q61),(24,q71),(25,q02),(26,q12),(49,q22),(50,q32),(51,q42),(52,q52),(53,q62),(54,q72),(55,q03),(0,q13)] [] Tryz.f314 = some c314 := by kernel_rfl
theorem e315 : cFn Tryz.prog [(8,q),(5,q0),(9,q1),(7,q2),(10,q3),(11,q4),(41,q5),(42,q6),(43,q7),(44,q00),(45,q10),(46,q20),(47,q30),(48,q40),(6,q50),(2,q60),(3,q70),(4,q01),(13,q11),(68,q21),(18,q31),(19,q41),(20,q51),(21,q61),(22,q71),(23,q02),(24,q12),(25,q22),(26,q32),(27,q42),(51,q52),(52,q62),(53,q72),(54,q03),(69,q13),(70,q23),(71,q33),(72,q43),(73,q53),(74,q63),(75,q73),(76,q04),(78,q14),(79,q24),(80,q34),(0,q44),(1,q54)] [] Tryz.f315 = some c315 := by kernel_rfl
theorem e316 : cFn Tryz.prog [(41,q),(2,q0),(19,q1),(78,q2),(11,q3),(13,q4),(85,q5),(86,q6),(87,q7),(88,q00),(18,q10),(39,q20),(0,q30),(40,q40),(77,q50),(1,q60),(8,q70),(3,q01),(9,q11),(15,q21),(16,q31),(90,q41),(91,q51),(92,q61),(93,q71),(94,q02),(95,q12),(96,q22),(97,q32),(98,q42),(99,q52),(100,q62),(101,q72),(102,q03),(103,q13),(104,q23)] [] Tryz.f316 = some c316 := by kernel_rfl
theorem e318 : cFn Tryz.prog [(21,q),(9,q0),(0,q1),(18,q2),(19,q3),(20,q4),(22,q5),(23,q6),(24,q7),(25,q00),(26,q10),(27,q20),(28,q30),(29,q40),(30,q50),(31,q60),(32,q70),(33,q01),(34,q11),(37,q21),(38,q31),(39,q41),(40,q51),(41,q61),(42,q71),(43,q02),(44,q12),(45,q22),(46,q32),(47,q42),(48,q52),(49,q62),(50,q72),(51,q03),(52,q13),(1,q23),(3,q33),(8,q43),(2,q53)] [] Tryz.f318 = some c318 := by kernel_rfl
theorem e326 : cFn Tryz.prog [(2,q),(0,q0)] [] Tryz.f326 = some c326 := by kernel_rfl
theorem e327 : cFn Tryz.prog [(2,q),(3,q0),(5,q1),(6,q2),(0,q3)] [23] Tryz.f327 = some c327 := by kernel_rfl
theorem e328 : cFn Tryz.prog [(4,q),(0,q0),(1,q1)] [] Tryz.f328 = some c328 := by kernel_rfl
theorem e329 : cFn Tryz.prog [(6,q),(0,q0),(1,q1),(2,q2)] [] Tryz.f329 = some c329 := by kernel_rfl
theorem e330 : cFn Tryz.prog [(1,q),(2,q0),(3,q1),(0,q2)] [] Tryz.f330 = some c330 := by kernel_rfl
theorem e331 : cFn Tryz.prog [(8,q),(5,q0),(4,q1),(0,q2),(7,q3),(1,q4)] [] Tryz.f331 = some c331 := by kernel_rfl
theorem e337 : cFn Tryz.prog [(4,q),(2,q0),(3,q1),(0,q2)] [] Tryz.f337 = some c337 := by kernel_rfl
theorem e338 : cFn Tryz.prog [(0,q),(4,q0),(1,q1)] [] Tryz.f338 = some c338 := by kernel_rfl
theorem e339 : cFn Tryz.prog [(2,q),(0,q0)] [] Tryz.f339 = some c339 := by kernel_rfl
def L6 : List (Nat × CFn) := [(287,c287),(288,c288),(289,c289),(290,c290),(291,c291),(292,c292),(293,c293),(294,c294),(295,c295),(296,c296),(297,c297),(298,c298),(299,c299),(300,c300),(301,c301),(302,c302),(303,c303),(304,c304),(305,c305),(306,c306),(307,c307),(308,c308),(309,c309),(310,c310),(311,c311),(312,c312),(313,c313),(314,c314),(315,c315),(316,c316),(318,c318),(326,c326),(327,c327),(328,c328),(329,c329),(330,c330),(331,c331),(337,c337),(338,c338),(339,c339)]
theorem g6 : ∀ x ∈ L6, Good Tryz.prog x := List.forall_mem_cons.2 ⟨⟨_, _, _, Tryz.func287, e287⟩, List.forall_mem_cons.2 ⟨⟨_, _, _, Tryz.func288, e288⟩, List.forall_mem_cons.2 ⟨⟨_, _, _, Tryz.func289, e289⟩, List.forall_mem_cons.2 ⟨⟨_, _, _, Tryz.func290, e290⟩, List.forall_mem_cons.2 ⟨⟨_, _, _, Tryz.func291, e291⟩, List.forall_mem_cons.2 ⟨⟨_, _, _, Tryz.func292, e292⟩, List.forall_mem_cons.2 ⟨⟨_, _, _, Tryz.func293, e293⟩, List.forall_mem_cons.2 ⟨⟨_, _, _, Tryz.func294, e294⟩, List.forall_mem_cons.2 ⟨⟨_, _, _, Tryz.func295, e295⟩, List.forall_mem_cons.2 ⟨⟨_, _, _, Tryz.func296, e296⟩, List.forall_mem_cons.2 ⟨⟨_, _, _, Tryz.func297, e297⟩, List.forall_mem_cons.2 ⟨⟨_, _, _, Tryz.func298, e298⟩, List.forall_mem_cons.2 ⟨⟨_, _, _, Tryz.func299, e299⟩, List.forall_mem_cons.2 ⟨⟨_, _, _, Tryz.func300, e300⟩, List.forall_mem_cons.2 ⟨⟨_, _, _, Tryz.func301, e301⟩, List.forall_mem_cons.2 ⟨⟨_, _, _, Tryz.func302, e302⟩, List.forall_mem_cons.2 ⟨⟨_, _, _, Tryz.func303, e303⟩, List.forall_mem_cons.2 ⟨⟨_, _, _, Tryz.func304, e304⟩, List.forall_mem_cons.2 ⟨⟨_, _, _, Tryz.func305, e305⟩, List.forall_mem_cons.2 ⟨⟨_, _, _, Tryz.func306, e306⟩, List.forall_mem_cons.2 ⟨⟨_, _, _, Tryz.func307, e307⟩, List.forall_mem_cons.2 ⟨⟨_, _, _, Tryz.func308, e308⟩, List.forall_mem_cons.2 ⟨⟨_, _, _, Tryz.func309, e309⟩, List.forall_mem_cons.2 ⟨⟨_, _, _, Tryz.func310, e310⟩, List.forall_mem_cons.2 ⟨⟨_, _, _, Tryz.func311, e311⟩, List.forall_mem_cons.2 ⟨⟨_, _, _, Tryz.func312, e312⟩, List.forall_mem_cons.2 ⟨⟨_, _, _, Tryz.func313, e313⟩, List.forall_mem_cons.2 ⟨⟨_, _, _, Tryz.func314, e314⟩, List.forall_mem_cons.2 ⟨⟨_, _, _, Tryz.func315, e315⟩, List.forall_mem_cons.2 ⟨⟨_, _, _, Tryz.func316, e316⟩, List.forall_mem_cons.2 ⟨⟨_, _, _, Tryz.func318, e318⟩, List.forall_mem_cons.2 ⟨⟨_, _, _, Tryz.func326, e326⟩, List.forall_mem_cons.2 ⟨⟨_, _, _, Tryz.func327, e327⟩, List.forall_mem_cons.2 ⟨⟨_, _, _, Tryz.func328, e328⟩, List.forall_mem_cons.2 ⟨⟨_, _, _, Tryz.func329, e329⟩, List.forall_mem_cons.2 ⟨⟨_, _, _, Tryz.func330, e330⟩, List.forall_mem_cons.2 ⟨⟨_, _, _, Tryz.func331, e331⟩, List.forall_mem_cons.2 ⟨⟨_, _, _, Tryz.func337, e337⟩, List.forall_mem_cons.2 ⟨⟨_, _, _, Tryz.func338, e338⟩, List.forall_mem_cons.2 ⟨⟨_, _, _, Tryz.func339, e339⟩, fun _ h => (by cases h)⟩⟩⟩⟩⟩⟩⟩⟩⟩⟩⟩⟩⟩⟩⟩⟩⟩⟩⟩⟩⟩⟩⟩⟩⟩⟩⟩⟩⟩⟩⟩⟩⟩⟩⟩⟩⟩⟩⟩⟩
end Go.Ex.K
