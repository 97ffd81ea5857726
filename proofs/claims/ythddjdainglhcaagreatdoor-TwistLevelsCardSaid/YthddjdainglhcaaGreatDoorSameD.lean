/- The table's functions are the compiled functions of the program, a part of them. Conditions: none. -/
import Derived.Test.YthddjdainglhcaaGreatDoorTabB
import Derived.Test.YthddjdainglhcaaGreatDoorExSoundB
import Derived.Test.YthddjdainglhcaaGreatDoorProg
import Derived.KernelRfl
set_option maxRecDepth 100000
namespace Go.Ex.KW
open Go.Proofs
theorem e266 : cFn Tryz.prog [(0,q),(2,q0)] [] Tryz.f266 = some c266 := by kernel_rfl
theorem e267 : cFn Tryz.prog [(2,q),(0,q0)] [] Tryz.f267 = some c267 := by kernel_rfl
theorem e268 : cFn Tryz.prog [(2,q),(3,q0),(5,q1),(6,q2),(0,q3)] [23] Tryz.f268 = some c268 := by kernel_rfl
theorem e269 : cFn Tryz.prog [(4,q),(0,q0),(1,q1)] [] Tryz.f269 = some c269 := by kernel_rfl
theorem e270 : cFn Tryz.prog [(6,q),(0,q0),(1,q1),(2,q2)] [] Tryz.f270 = some c270 := by kernel_rfl
theorem e271 : cFn Tryz.prog [(59,q),(6,q0),(7,q1),(8,q2),(5,q3),(64,q4),(65,q5),(66,q6),(67,q7),(68,q00),(69,q10),(70,q20),(71,q30),(72,q40),(73,q50),(74,q60),(75,q70),(76,q01),(77,q11),(78,q21),(79,q31),(80,q41),(81,q51),(4,q61),(57,q71),(58,q02),(1,q12),(31,q22),(32,q32),(33,q42),(34,q52),(35,q62),(36,q72),(37,q03),(38,q13),(39,q23),(40,q33),(41,q43),(42,q53),(43,q63),(44,q73),(45,q04),(46,q14),(47,q24),(48,q34),(49,q44),(51,q54),(0,q64)] [16,61] Tryz.f271 = some c271 := by kernel_rfl
theorem e272 : cFn Tryz.prog [(6,q),(0,q0),(1,q1),(2,q2)] [] Tryz.f272 = some c272 := by kernel_rfl
theorem e273 : cFn Tryz.prog [(6,q),(7,q0),(8,q1),(0,q2),(1,q3),(2,q4)] [] Tryz.f273 = some c273 := by kernel_rfl
theorem e274 : cFn Tryz.prog [(6,q),(0,q0),(1,q1),(7,q2),(2,q3)] [] Tryz.f274 = some c274 := by kernel_rfl
theorem e275 : cFn Tryz.prog [(2,q),(0,q0)] [] Tryz.f275 = some c275 := by kernel_rfl
theorem e276 : cFn Tryz.prog [(4,q),(2,q0),(3,q1),(0,q2)] [] Tryz.f276 = some c276 := by kernel_rfl
theorem e277 : cFn Tryz.prog [(0,q),(4,q0),(1,q1)] [] Tryz.f277 = some c277 := by kernel_rfl
theorem e278 : cFn Tryz.prog [(2,q),(0,q0)] [] Tryz.f278 = some c278 := by kernel_rfl
theorem e279 : cFn Tryz.prog [(9,q),(0,q0),(10,q1),(7,q2),(25,q3),(26,q4),(27,q5),(28,q6),(29,q7),(30,q00),(31,q10),(32,q20),(33,q30),(34,q40),(35,q50),(8,q60),(1,q70),(2,q01),(6,q11),(11,q21)] [] Tryz.f279 = some c279 := by kernel_rfl
theorem e280 : cFn Tryz.prog [(0,q),(4,q0),(1,q1)] [] Tryz.f280 = some c280 := by kernel_rfl
theorem e281 : cFn Tryz.prog [(11,q),(9,q0),(10,q1),(24,q2),(25,q3),(26,q4),(27,q5),(28,q6),(29,q7),(30,q00),(31,q10),(0,q20),(4,q30),(39,q40),(2,q50),(6,q60),(7,q70),(8,q01),(35,q11),(36,q21),(37,q31),(38,q41),(40,q51),(41,q61),(42,q71),(43,q02),(44,q12),(45,q22),(46,q32),(47,q42),(48,q52),(1,q62)] [14] Tryz.f281 = some c281 := by kernel_rfl
theorem e282 : cFn Tryz.prog [(2,q),(3,q0),(4,q1),(5,q2),(6,q3),(7,q4),(8,q5),(9,q6),(10,q7),(11,q00),(12,q10),(13,q20),(14,q30),(15,q40),(16,q50),(0,q60),(1,q70)] [] Tryz.f282 = some c282 := by kernel_rfl
theorem e283 : cFn Tryz.prog [(9,q),(4,q0),(5,q1),(8,q2),(10,q3),(0,q4),(1,q5),(6,q6),(7,q7),(67,q00),(68,q10),(69,q20),(70,q30),(71,q40),(72,q50),(73,q60),(74,q70),(75,q01)] [] Tryz.f283 = some c283 := by kernel_rfl
theorem e284 : cFn Tryz.prog [(3,q),(0,q0),(1,q1)] [] Tryz.f284 = some c284 := by kernel_rfl
theorem e285 : cFn Tryz.prog [(1,q),(2,q0),(3,q1),(0,q2)] [] Tryz.f285 = some c285 := by kernel_rfl
theorem e286 : cFn Tryz.prog [(5,q),(1,q0),(0,q1),(4,q2),(21,q3),(22,q4),(23,q5),(24,q6),(25,q7),(26,q00),(27,q10)] [] Tryz.f286 = some c286 := by kernel_rfl
theorem e287 : cFn Tryz.prog [(2,q),(0,q0)] [] Tryz.f287 = some c287 := by kernel_rfl
theorem e289 : cFn Tryz.prog [(2,q),(3,q0),(4,q1),(6,q2),(16,q3),(1,q4),(5,q5),(7,q6),(0,q7)] [30] Tryz.f289 = some c289 := by kernel_rfl
theorem e290 : cFn Tryz.prog [(2,q),(3,q0),(0,q1),(14,q2),(15,q3),(16,q4),(17,q5),(18,q6),(19,q7),(20,q00),(21,q10),(22,q20),(23,q30),(24,q40),(25,q50),(26,q60),(27,q70)] [] Tryz.f290 = some c290 := by kernel_rfl
theorem e291 : cFn Tryz.prog [(6,q),(4,q0),(5,q1),(2,q2),(3,q3),(26,q4),(0,q5),(1,q6)] [] Tryz.f291 = some c291 := by kernel_rfl
theorem e292 : cFn Tryz.prog [(6,q),(20,q0),(3,q1),(4,q2),(5,q3),(8,q4),(7,q5),(2,q6),(17,q7),(18,q00),(19,q10),(21,q20),(22,q30),(23,q40),(24,q50),(25,q60),(26,q70),(27,q01),(28,q11),(38,q21),(39,q31),(40,q41),(41,q51),(42,q61),(43,q71),(44,q02),(45,q12),(46,q22),(47,q32),(48,q42),(49,q52),(50,q62),(0,q72),(1,q03)] [16] Tryz.f292 = some c292 := by kernel_rfl
theorem e293 : cFn Tryz.prog [(2,q),(3,q0),(5,q1),(1,q2),(4,q3),(0,q4)] [13] Tryz.f293 = some c293 := by kernel_rfl
theorem e294 : cFn Tryz.prog [(6,q),(7,q0),(8,q1),(1,q2),(5,q3),(9,q4),(3,q5),(30,q6),(31,q7),(32,q00),(33,q10),(34,q20),(35,q30),(36,q40),(37,q50),(38,q60),(39,q70),(40,q01),(41,q11),(42,q21),(43,q31),(44,q41),(45,q51),(46,q61),(0,q71),(2,q02)] [17] Tryz.f294 = some c294 := by kernel_rfl
theorem e295 : cFn Tryz.prog [(38,q),(28,q0),(9,q1),(6,q2),(7,q3),(8,q4),(46,q5),(47,q6),(48,q7),(49,q00),(50,q10),(51,q20),(52,q30),(53,q40),(54,q50),(0,q60),(36,q70),(27,q01),(37,q11),(4,q21),(5,q31),(1,q41)] [40] Tryz.f295 = some c295 := by kernel_rfl
theorem e296 : cFn Tryz.prog [(36,q),(7,q0),(6,q1),(41,q2),(42,q3),(43,q4),(44,q5),(45,q6),(46,q7),(47,q00),(48,q10),(49,q20),(1,q30),(2,q40),(34,q50),(35,q60),(3,q70),(5,q01),(0,q11)] [38] Tryz.f296 = some c296 := by kernel_rfl
theorem e297 : cFn Tryz.prog [(5,q),(1,q0),(4,q1),(9,q2),(3,q3),(8,q4),(2,q5),(0,q6)] [] Tryz.f297 = some c297 := by kernel_rfl
theorem e298 : cFn Tryz.prog [(2,q),(0,q0)] [] Tryz.f298 = some c298 := by kernel_rfl
theorem e299 : cFn Tryz.prog [(4,q),(0,q0),(1,q1)] [] Tryz.f299 = some c299 := by kernel_rfl
theorem e300 : cFn Tryz.prog [(2,q),(1,q0),(0,q1)] [] Tryz.f300 = some c300 := by kernel_rfl
theorem e306 : cFn Tryz.prog [(2,q),(3,q0),(0,q1)] [] Tryz.f306 = some c306 := by kernel_rfl
theorem e307 : cFn Tryz.prog [(15,q),(19,q0),(7,q1),(9,q2),(5,q3),(8,q4),(11,q5),(20,q6),(21,q7),(22,q00),(23,q10),(24,q20),(25,q30),(26,q40),(13,q50),(1,q60),(14,q70),(4,q01),(0,q11)] [] Tryz.f307 = some c307 := by kernel_rfl
theorem e308 : cFn Tryz.prog [(5,q),(6,q0),(1,q1),(4,q2),(0,q3)] [15,29] Tryz.f308 = some c308 := by kernel_rfl
theorem e319 : cFn Tryz.prog [(4,q),(5,q0),(7,q1),(2,q2),(6,q3),(0,q4),(1,q5)] [15] Tryz.f319 = some c319 := by kernel_rfl
theorem e320 : cFn Tryz.prog [(4,q),(0,q0),(1,q1)] [] Tryz.f320 = some c320 := by kernel_rfl
theorem e321 : cFn Tryz.prog [(23,q),(2,q0),(8,q1),(6,q2),(21,q3),(22,q4),(1,q5),(0,q6),(5,q7)] [] Tryz.f321 = some c321 := by kernel_rfl
def L6 : List (Nat × CFn) := [(266,c266),(267,c267),(268,c268),(269,c269),(270,c270),(271,c271),(272,c272),(273,c273),(274,c274),(275,c275),(276,c276),(277,c277),(278,c278),(279,c279),(280,c280),(281,c281),(282,c282),(283,c283),(284,c284),(285,c285),(286,c286),(287,c287),(289,c289),(290,c290),(291,c291),(292,c292),(293,c293),(294,c294),(295,c295),(296,c296),(297,c297),(298,c298),(299,c299),(300,c300),(306,c306),(307,c307),(308,c308),(319,c319),(320,c320),(321,c321)]
theorem g6 : ∀ x ∈ L6, Good Tryz.prog x := List.forall_mem_cons.2 ⟨⟨_, _, _, Tryz.func266, e266⟩, List.forall_mem_cons.2 ⟨⟨_, _, _, Tryz.func267, e267⟩, List.forall_mem_cons.2 ⟨⟨_, _, _, Tryz.func268, e268⟩, List.forall_mem_cons.2 ⟨⟨_, _, _, Tryz.func269, e269⟩, List.forall_mem_cons.2 ⟨⟨_, _, _, Tryz.func270, e270⟩, List.forall_mem_cons.2 ⟨⟨_, _, _, Tryz.func271, e271⟩, List.forall_mem_cons.2 ⟨⟨_, _, _, Tryz.func272, e272⟩, List.forall_mem_cons.2 ⟨⟨_, _, _, Tryz.func273, e273⟩, List.forall_mem_cons.2 ⟨⟨_, _, _, Tryz.func274, e274⟩, List.forall_mem_cons.2 ⟨⟨_, _, _, Tryz.func275, e275⟩, List.forall_mem_cons.2 ⟨⟨_, _, _, Tryz.func276, e276⟩, List.forall_mem_cons.2 ⟨⟨_, _, _, Tryz.func277, e277⟩, List.forall_mem_cons.2 ⟨⟨_, _, _, Tryz.func278, e278⟩, List.forall_mem_cons.2 ⟨⟨_, _, _, Tryz.func279, e279⟩, List.forall_mem_cons.2 ⟨⟨_, _, _, Tryz.func280, e280⟩, List.forall_mem_cons.2 ⟨⟨_, _, _, Tryz.func281, e281⟩, List.forall_mem_cons.2 ⟨⟨_, _, _, Tryz.func282, e282⟩, List.forall_mem_cons.2 ⟨⟨_, _, _, Tryz.func283, e283⟩, List.forall_mem_cons.2 ⟨⟨_, _, _, Tryz.func284, e284⟩, List.forall_mem_cons.2 ⟨⟨_, _, _, Tryz.func285, e285⟩, List.forall_mem_cons.2 ⟨⟨_, _, _, Tryz.func286, e286⟩, List.forall_mem_cons.2 ⟨⟨_, _, _, Tryz.func287, e287⟩, List.forall_mem_cons.2 ⟨⟨_, _, _, Tryz.func289, e289⟩, List.forall_mem_cons.2 ⟨⟨_, _, _, Tryz.func290, e290⟩, List.forall_mem_cons.2 ⟨⟨_, _, _, Tryz.func291, e291⟩, List.forall_mem_cons.2 ⟨⟨_, _, _, Tryz.func292, e292⟩, List.forall_mem_cons.2 ⟨⟨_, _, _, Tryz.func293, e293⟩, List.forall_mem_cons.2 ⟨⟨_, _, _, Tryz.func294, e294⟩, List.forall_mem_cons.2 ⟨⟨_, _, _, Tryz.func295, e295⟩, List.forall_mem_cons.2 ⟨⟨_, _, _, Tryz.func296, e296⟩, List.forall_mem_cons.2 ⟨⟨_, _, _, Tryz.func297, e297⟩, List.forall_mem_cons.2 ⟨⟨_, _, _, Tryz.func298, e298⟩, List.forall_mem_cons.2 ⟨⟨_, _, _, Tryz.func299, e299⟩, List.forall_mem_cons.2 ⟨⟨_, _, _, Tryz.func300, e300⟩, List.forall_mem_cons.2 ⟨⟨_, _, _, Tryz.func306, e306⟩, List.forall_mem_cons.2 ⟨⟨_, _, _, Tryz.func307, e307⟩, List.forall_mem_cons.2 ⟨⟨_, _, _, Tryz.func308, e308⟩, List.forall_mem_cons.2 ⟨⟨_, _, _, Tryz.func319, e319⟩, List.forall_mem_cons.2 ⟨⟨_, _, _, Tryz.func320, e320⟩, List.forall_mem_cons.2 ⟨⟨_, _, _, Tryz.func321, e321⟩, fun _ h => (by cases h)⟩⟩⟩⟩⟩⟩⟩⟩⟩⟩⟩⟩⟩⟩⟩⟩⟩⟩⟩⟩⟩⟩⟩⟩⟩⟩⟩⟩⟩⟩⟩⟩⟩⟩⟩⟩⟩⟩⟩⟩
end Go.Ex.KW

set_option maxRecDepth 100000
namespace Go.Ex.KW
open Go.Proofs
theorem e322 : cFn Tryz.prog [(2,q),(0,q0)] [] Tryz.f322 = some c322 := by kernel_rfl
theorem e323 : cFn Tryz.prog [(8,q),(5,q0),(2,q1),(3,q2),(6,q3),(7,q4),(0,q5)] [] Tryz.f323 = some c323 := by kernel_rfl
theorem e324 : cFn Tryz.prog [(1,q),(2,q0),(0,q1)] [] Tryz.f324 = some c324 := by kernel_rfl
theorem e325 : cFn Tryz.prog [(7,q),(8,q0),(6,q1),(5,q2),(1,q3),(2,q4),(3,q5),(4,q6),(17,q7),(18,q00),(19,q10),(20,q20),(0,q30)] [13,40] Tryz.f325 = some c325 := by kernel_rfl
theorem e326 : cFn Tryz.prog [(8,q),(19,q0),(40,q1),(7,q2),(5,q3),(10,q4),(2,q5),(3,q6),(6,q7),(4,q00),(44,q10),(45,q20),(46,q30),(47,q40),(48,q50),(49,q60),(50,q70),(51,q01),(52,q11),(53,q21),(54,q31),(55,q41),(56,q51),(57,q61),(58,q71),(59,q02),(17,q12),(38,q22),(18,q32),(39,q42),(0,q52)] [] Tryz.f326 = some c326 := by kernel_rfl
theorem e327 : cFn Tryz.prog [(14,q),(4,q0),(2,q1),(13,q2),(1,q3),(0,q4)] [] Tryz.f327 = some c327 := by kernel_rfl
theorem e328 : cFn Tryz.prog [(8,q),(5,q0),(4,q1),(0,q2),(7,q3),(1,q4)] [] Tryz.f328 = some c328 := by kernel_rfl
theorem e330 : cFn Tryz.prog [(3,q),(0,q0),(2,q1)] [] Tryz.f330 = some c330 := by kernel_rfl
theorem e331 : cFn Tryz.prog [(5,q),(2,q0),(3,q1),(1,q2),(4,q3),(0,q4)] [] Tryz.f331 = some c331 := by kernel_rfl
theorem e332 : cFn Tryz.prog [(4,q),(5,q0),(6,q1),(0,q2),(1,q3)] [11] Tryz.f332 = some c332 := by kernel_rfl
theorem e333 : cFn Tryz.prog [(4,q),(5,q0),(1,q1),(6,q2),(0,q3)] [11] Tryz.f333 = some c333 := by kernel_rfl
theorem e334 : cFn Tryz.prog [(79,q),(8,q0),(19,q1),(77,q2),(78,q3),(12,q4),(2,q5),(68,q6),(16,q7),(17,q00),(0,q10),(66,q20),(67,q30),(10,q40),(13,q50),(9,q60),(14,q70),(1,q01),(6,q11),(7,q21)] [] Tryz.f334 = some c334 := by kernel_rfl
theorem e335 : cFn Tryz.prog [(1,q),(4,q0),(0,q1)] [] Tryz.f335 = some c335 := by kernel_rfl
theorem e336 : cFn Tryz.prog [(4,q),(0,q0),(1,q1)] [] Tryz.f336 = some c336 := by kernel_rfl
theorem e339 : cFn Tryz.prog [(2,q),(0,q0),(3,q1)] [] Tryz.f339 = some c339 := by kernel_rfl
theorem e341 : cFn Tryz.prog [(13,q),(6,q0),(7,q1),(5,q2),(11,q3),(12,q4),(0,q5),(4,q6),(1,q7)] [] Tryz.f341 = some c341 := by kernel_rfl
theorem e342 : cFn Tryz.prog [(4,q),(5,q0),(0,q1),(1,q2)] [] Tryz.f342 = some c342 := by kernel_rfl
theorem e343 : cFn Tryz.prog [(61,q),(11,q0),(9,q1),(7,q2),(0,q3),(12,q4),(10,q5),(59,q6),(60,q7),(2,q00),(6,q10),(8,q20),(1,q30)] [20] Tryz.f343 = some c343 := by kernel_rfl
theorem e344 : cFn Tryz.prog [(19,q),(10,q0),(9,q1),(1,q2),(2,q3),(18,q4),(0,q5),(3,q6),(8,q7)] [] Tryz.f344 = some c344 := by kernel_rfl
theorem e345 : cFn Tryz.prog [(6,q),(0,q0),(1,q1),(2,q2)] [] Tryz.f345 = some c345 := by kernel_rfl
theorem e351 : cFn Tryz.prog [(4,q),(5,q0),(1,q1),(0,q2),(6,q3),(7,q4)] [] Tryz.f351 = some c351 := by kernel_rfl
theorem e352 : cFn Tryz.prog [(1,q),(2,q0),(75,q1),(0,q2),(14,q3),(11,q4),(3,q5),(8,q6),(12,q7),(10,q00),(16,q10),(17,q20),(18,q30),(9,q40),(13,q50),(15,q60),(73,q70),(74,q01),(76,q11),(77,q21),(78,q31),(79,q41),(80,q51),(81,q61),(82,q71),(83,q02),(84,q12),(85,q22),(86,q32),(87,q42)] [] Tryz.f352 = some c352 := by kernel_rfl
theorem e353 : cFn Tryz.prog [(2,q),(0,q0)] [] Tryz.f353 = some c353 := by kernel_rfl
theorem e354 : cFn Tryz.prog [(6,q),(5,q0),(0,q1),(1,q2),(13,q3),(14,q4),(15,q5),(16,q6),(17,q7),(18,q00),(19,q10),(20,q20),(21,q30),(22,q40),(23,q50),(24,q60),(25,q70),(4,q01)] [] Tryz.f354 = some c354 := by kernel_rfl
theorem e356 : cFn Tryz.prog [(2,q),(1,q0),(8,q1),(0,q2),(6,q3)] [20] Tryz.f356 = some c356 := by kernel_rfl
theorem e357 : cFn Tryz.prog [(5,q),(1,q0),(0,q1),(6,q2),(7,q3),(8,q4),(4,q5)] [] Tryz.f357 = some c357 := by kernel_rfl
theorem e358 : cFn Tryz.prog [(0,q),(11,q0),(9,q1),(60,q2),(8,q3),(2,q4),(1,q5),(12,q6),(58,q7),(59,q00),(6,q10),(7,q20)] [] Tryz.f358 = some c358 := by kernel_rfl
theorem e359 : cFn Tryz.prog [(1,q),(83,q0),(2,q1),(0,q2),(4,q3),(16,q4),(13,q5),(3,q6),(10,q7),(14,q00),(12,q10),(18,q20),(19,q30),(20,q40),(11,q50),(15,q60),(17,q70),(81,q01),(82,q11),(84,q21),(85,q31),(86,q41),(87,q51),(88,q61),(89,q71),(90,q02),(91,q12),(92,q22),(93,q32),(94,q42),(95,q52),(96,q62),(97,q72)] [] Tryz.f359 = some c359 := by kernel_rfl
theorem e360 : cFn Tryz.prog [(0,q),(2,q0)] [] Tryz.f360 = some c360 := by kernel_rfl
theorem e361 : cFn Tryz.prog [(0,q),(4,q0),(1,q1)] [] Tryz.f361 = some c361 := by kernel_rfl
theorem e362 : cFn Tryz.prog [(2,q),(0,q0)] [] Tryz.f362 = some c362 := by kernel_rfl
theorem e363 : cFn Tryz.prog [(4,q),(0,q0),(1,q1)] [] Tryz.f363 = some c363 := by kernel_rfl
theorem e364 : cFn Tryz.prog [(10,q),(5,q0),(11,q1),(9,q2),(12,q3),(13,q4),(4,q5),(0,q6),(6,q7),(1,q00),(14,q10),(7,q20),(28,q30),(65,q40),(16,q50),(29,q60),(30,q70),(31,q01),(32,q11),(33,q21),(34,q31),(35,q41),(36,q51),(37,q61),(38,q71),(39,q02),(40,q12),(41,q22),(42,q32),(66,q42),(67,q52),(68,q62),(69,q72),(70,q03),(71,q13),(72,q23),(73,q33),(74,q43),(75,q53),(76,q63),(77,q73),(78,q04),(79,q14),(80,q24),(81,q34)] [44,58,106,105] Tryz.f364 = some c364 := by kernel_rfl
theorem e365 : cFn Tryz.prog [(19,q),(7,q0),(0,q1),(16,q2),(17,q3),(18,q4),(20,q5),(21,q6),(22,q7),(23,q00),(24,q10),(25,q20),(26,q30),(27,q40),(28,q50),(29,q60),(30,q70),(33,q01),(34,q11),(35,q21),(36,q31),(37,q41),(38,q51),(39,q61),(40,q71),(41,q02),(42,q12),(43,q22),(44,q32),(45,q42),(46,q52),(47,q62),(48,q72),(1,q03),(6,q13),(2,q23)] [] Tryz.f365 = some c365 := by kernel_rfl
theorem e371 : cFn Tryz.prog [(4,q),(0,q0),(1,q1)] [] Tryz.f371 = some c371 := by kernel_rfl
theorem e374 : cFn Tryz.prog [(0,q)] [] Tryz.f374 = some c374 := by kernel_rfl
theorem e377 : cFn Tryz.prog [(21,q),(9,q0),(0,q1),(18,q2),(19,q3),(20,q4),(22,q5),(23,q6),(24,q7),(25,q00),(26,q10),(27,q20),(28,q30),(29,q40),(30,q50),(31,q60),(32,q70),(33,q01),(34,q11),(37,q21),(38,q31),(39,q41),(40,q51),(41,q61),(42,q71),(43,q02),(44,q12),(45,q22),(46,q32),(47,q42),(48,q52),(49,q62),(50,q72),(51,q03),(52,q13),(1,q23),(3,q33),(8,q43),(2,q53)] [] Tryz.f377 = some c377 := by kernel_rfl
def L7 : List (Nat × CFn) := [(322,c322),(323,c323),(324,c324),(325,c325),(326,c326),(327,c327),(328,c328),(330,c330),(331,c331),(332,c332),(333,c333),(334,c334),(335,c335),(336,c336),(339,c339),(341,c341),(342,c342),(343,c343),(344,c344),(345,c345),(351,c351),(352,c352),(353,c353),(354,c354),(356,c356),(357,c357),(358,c358),(359,c359),(360,c360),(361,c361),(362,c362),(363,c363),(364,c364),(365,c365),(371,c371),(374,c374),(377,c377)]
theorem g7 : ∀ x ∈ L7, Good Tryz.prog x := List.forall_mem_cons.2 ⟨⟨_, _, _, Tryz.func322, e322⟩, List.forall_mem_cons.2 ⟨⟨_, _, _, Tryz.func323, e323⟩, List.forall_mem_cons.2 ⟨⟨_, _, _, Tryz.func324, e324⟩, List.forall_mem_cons.2 ⟨⟨_, _, _, Tryz.func325, e325⟩, List.forall_mem_cons.2 ⟨⟨_, _, _, Tryz.func326, e326⟩, List.forall_mem_cons.2 ⟨⟨_, _, _, Tryz.func327, e327⟩, List.forall_mem_cons.2 ⟨⟨_, _, _, Tryz.func328, e328⟩, List.forall_mem_cons.2 ⟨⟨_, _, _, Tryz.func330, e330⟩, List.forall_mem_cons.2 ⟨⟨_, _, _, Tryz.func331, e331⟩, List.forall_mem_cons.2 ⟨⟨_, _, _, Tryz.func332, e332⟩, List.forall_mem_cons.2 ⟨⟨_, _, _, Tryz.func333, e333⟩, List.forall_mem_cons.2 ⟨⟨_, _, _, Tryz.func334, e334⟩, List.forall_mem_cons.2 ⟨⟨_, _, _, Tryz.func335, e335⟩, List.forall_mem_cons.2 ⟨⟨_, _, _, Tryz.func336, e336⟩, List.forall_mem_cons.2 ⟨⟨_, _, _, Tryz.func339, e339⟩, List.forall_mem_cons.2 ⟨⟨_, _, _, Tryz.func341, e341⟩, List.forall_mem_cons.2 ⟨⟨_, _, _, Tryz.func342, e342⟩, List.forall_mem_cons.2 ⟨⟨_, _, _, Tryz.func343, e343⟩, List.forall_mem_cons.2 ⟨⟨_, _, _, Tryz.func344, e344⟩, List.forall_mem_cons.2 ⟨⟨_, _, _, Tryz.func345, e345⟩, List.forall_mem_cons.2 ⟨⟨_, _, _, Tryz.func351, e351⟩, List.forall_mem_cons.2 ⟨⟨_, _, _, Tryz.func352, e352⟩, List.forall_mem_cons.2 ⟨⟨_, _, _, Tryz.func353, e353⟩, List.forall_mem_cons.2 ⟨⟨_, _, _, Tryz.func354, e354⟩, List.forall_mem_cons.2 ⟨⟨_, _, _, Tryz.func356, e356⟩, List.forall_mem_cons.2 ⟨⟨_, _, _, Tryz.func357, e357⟩, List.forall_mem_cons.2 ⟨⟨_, _, _, Tryz.func358, e358⟩, List.forall_mem_cons.2 ⟨⟨_, _, _, Tryz.func359, e359⟩, List.forall_mem_cons.2 ⟨⟨_, _, _, Tryz.func360, e360⟩, List.forall_mem_cons.2 ⟨⟨_, _, _, Tryz.func361, e361⟩, List.forall_mem_cons.2 ⟨⟨_, _, _, Tryz.func362, e362⟩, List.forall_mem_cons.2 ⟨⟨_, _, _, Tryz.func363, e363⟩, List.forall_mem_cons.2 ⟨⟨_, _, _, Tryz.func364, e364⟩, List.forall_mem_cons.2 ⟨⟨_, _, _, Tryz.func365, e365⟩, List.forall_mem_cons.2 ⟨⟨_, _, _, Tryz.func371, e371⟩, List.forall_mem_cons.2 ⟨⟨_, _, _, Tryz.func374, e374⟩, List.forall_mem_cons.2 ⟨⟨_, _, _, Tryz.func377, e377⟩, fun _ h => (by cases h)⟩⟩⟩⟩⟩⟩⟩⟩⟩⟩⟩⟩⟩⟩⟩⟩⟩⟩⟩⟩⟩⟩⟩⟩⟩⟩⟩⟩⟩⟩⟩⟩⟩⟩⟩⟩⟩
end Go.Ex.KW

