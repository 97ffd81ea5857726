/- The table's functions are the compiled functions of the program, a part of them. Conditions: none. -/
import Derived.Test.YtajoeeppiomfkaaGreatDoorPTabC
import Derived.Test.YtajoeeppiomfkaaGreatDoorExSoundB
import Derived.Test.YtajoeeppiomfkaaGreatDoorProg
import Derived.KernelRfl
set_option maxRecDepth 100000
namespace Go.Ex.KP
open Go.Proofs
theorem e189 : cFn Tryz.prog [(13,q),(8,q0),(0,q1),(21,q2),(22,q3),(23,q4),(24,q5),(25,q6),(26,q7),(27,q00),(28,q10),(29,q20),(7,q30),(12,q40),(1,q50),(6,q60),(2,q70)] [] Tryz.f189 = some c189 := by kernel_rfl
theorem e190 : cFn Tryz.prog [(4,q),(5,q0),(3,q1),(2,q2),(0,q3),(1,q4)] [] Tryz.f190 = some c190 := by kernel_rfl
theorem e191 : cFn Tryz.prog [(83,q),(15,q0),(14,q1),(11,q2),(82,q3),(10,q4),(13,q5),(4,q6),(36,q7),(2,q00),(3,q10),(5,q20),(7,q30),(9,q40),(12,q50),(34,q60),(35,q70),(0,q01),(6,q11)] [] Tryz.f191 = some c191 := by kernel_rfl
theorem e192 : cFn Tryz.prog [(14,q),(73,q0),(6,q1),(7,q2),(13,q3),(15,q4),(10,q5),(12,q6),(16,q7),(0,q00),(1,q10),(2,q20),(71,q30),(72,q40),(9,q50),(8,q60)] [] Tryz.f192 = some c192 := by kernel_rfl
theorem e193 : cFn Tryz.prog [(6,q),(7,q0),(8,q1),(9,q2),(5,q3),(0,q4),(1,q5),(2,q6)] [] Tryz.f193 = some c193 := by kernel_rfl
theorem e194 : cFn Tryz.prog [(45,q),(9,q0),(3,q1),(48,q2),(49,q3),(50,q4),(51,q5),(52,q6),(53,q7),(54,q00),(55,q10),(56,q20),(57,q30),(58,q40),(59,q50),(60,q60),(61,q70),(62,q01),(63,q11),(4,q21),(8,q31),(44,q41),(2,q51),(6,q61),(7,q71),(39,q02),(33,q12),(34,q22),(35,q32),(36,q42),(37,q52),(38,q62),(40,q72),(41,q03),(0,q13),(1,q23)] [] Tryz.f194 = some c194 := by kernel_rfl
theorem e195 : cFn Tryz.prog [(5,q),(3,q0),(0,q1),(1,q2),(2,q3)] [] Tryz.f195 = some c195 := by kernel_rfl
theorem e196 : cFn Tryz.prog [(1,q),(2,q0),(0,q1)] [] Tryz.f196 = some c196 := by kernel_rfl
theorem e197 : cFn Tryz.prog [(28,q),(6,q0),(4,q1),(3,q2),(32,q3),(33,q4),(34,q5),(35,q6),(36,q7),(37,q00),(38,q10),(39,q20),(40,q30),(41,q40),(42,q50),(26,q60),(27,q70),(12,q01),(1,q11),(11,q21),(2,q31),(0,q41)] [] Tryz.f197 = some c197 := by kernel_rfl
theorem e198 : cFn Tryz.prog [(0,q),(86,q0),(115,q1),(7,q2),(8,q3),(2,q4),(4,q5),(5,q6),(89,q7),(90,q00),(91,q10),(92,q20),(93,q30),(94,q40),(95,q50),(96,q60),(97,q70),(98,q01),(99,q11),(100,q21),(101,q31),(102,q41),(103,q51),(104,q61),(105,q71),(106,q02),(107,q12),(108,q22),(109,q32),(110,q42),(111,q52),(118,q62),(119,q72),(120,q03),(121,q13),(122,q23),(123,q33),(124,q43),(125,q53),(126,q63),(127,q73),(128,q04),(129,q14),(130,q24),(131,q34),(132,q44),(133,q54),(134,q64),(135,q74),(136,q05),(137,q15),(138,q25),(139,q35),(140,q45),(85,q55),(114,q65),(3,q75),(64,q06),(65,q16),(66,q26),(67,q36),(68,q46),(69,q56),(70,q66),(71,q76),(72,q07),(73,q17),(74,q27),(75,q37),(76,q47),(77,q57),(78,q67),(79,q77),(80,q000),(81,q100),(82,q200),(83,q300)] [] Tryz.f198 = some c198 := by kernel_rfl
theorem e199 : cFn Tryz.prog [(0,q)] [] Tryz.f199 = some c199 := by kernel_rfl
theorem e200 : cFn Tryz.prog [(2,q),(0,q0)] [] Tryz.f200 = some c200 := by kernel_rfl
theorem e201 : cFn Tryz.prog [(4,q),(3,q0),(0,q1),(1,q2)] [] Tryz.f201 = some c201 := by kernel_rfl
theorem e203 : cFn Tryz.prog [(11,q),(5,q0),(4,q1),(3,q2),(9,q3),(10,q4),(2,q5),(0,q6)] [13] Tryz.f203 = some c203 := by kernel_rfl
theorem e204 : cFn Tryz.prog [(30,q),(6,q0),(5,q1),(3,q2),(4,q3),(28,q4),(29,q5),(0,q6),(2,q7)] [32] Tryz.f204 = some c204 := by kernel_rfl
theorem e205 : cFn Tryz.prog [(2,q),(0,q0)] [] Tryz.f205 = some c205 := by kernel_rfl
theorem e206 : cFn Tryz.prog [(1,q),(0,q0),(7,q1),(4,q2),(5,q3)] [] Tryz.f206 = some c206 := by kernel_rfl
theorem e207 : cFn Tryz.prog [(4,q),(3,q0),(0,q1),(11,q2),(12,q3),(13,q4),(14,q5),(15,q6),(16,q7),(17,q00),(18,q10),(19,q20),(20,q30),(2,q40)] [] Tryz.f207 = some c207 := by kernel_rfl
theorem e208 : cFn Tryz.prog [(57,q),(11,q0),(12,q1),(8,q2),(6,q3),(62,q4),(63,q5),(64,q6),(65,q7),(66,q00),(67,q10),(68,q20),(69,q30),(70,q40),(71,q50),(72,q60),(73,q70),(74,q01),(75,q11),(76,q21),(9,q31),(55,q41),(56,q51),(1,q61),(35,q71),(10,q02),(36,q12),(37,q22),(38,q32),(39,q42),(40,q52),(41,q62),(42,q72),(43,q03),(44,q13),(45,q23),(46,q33),(47,q43),(48,q53),(4,q63),(5,q73),(7,q04),(0,q14)] [59] Tryz.f208 = some c208 := by kernel_rfl
theorem e209 : cFn Tryz.prog [(17,q),(5,q0),(2,q1),(3,q2),(15,q3),(16,q4),(0,q5)] [] Tryz.f209 = some c209 := by kernel_rfl
theorem e210 : cFn Tryz.prog [(11,q),(7,q0),(1,q1),(6,q2),(34,q3),(35,q4),(36,q5),(37,q6),(38,q7),(39,q00),(51,q10),(52,q20),(53,q30),(54,q40),(55,q50),(56,q60),(57,q70),(58,q01),(59,q11),(60,q21),(61,q31),(3,q41),(8,q51),(10,q61),(5,q71),(2,q02),(9,q12),(4,q22),(17,q32),(18,q42),(19,q52),(20,q62),(21,q72),(22,q03),(23,q13),(24,q23),(25,q33),(26,q43),(27,q53),(0,q63)] [] Tryz.f210 = some c210 := by kernel_rfl
theorem e211 : cFn Tryz.prog [(4,q),(0,q0),(1,q1)] [] Tryz.f211 = some c211 := by kernel_rfl
theorem e214 : cFn Tryz.prog [(0,q),(2,q0)] [] Tryz.f214 = some c214 := by kernel_rfl
theorem e215 : cFn Tryz.prog [(1,q),(2,q0),(0,q1)] [] Tryz.f215 = some c215 := by kernel_rfl
theorem e216 : cFn Tryz.prog [(20,q),(6,q0),(7,q1),(4,q2),(18,q3),(19,q4),(1,q5),(2,q6),(3,q7),(0,q00)] [] Tryz.f216 = some c216 := by kernel_rfl
theorem e217 : cFn Tryz.prog [(2,q),(3,q0),(4,q1),(5,q2),(0,q3)] [] Tryz.f217 = some c217 := by kernel_rfl
theorem e218 : cFn Tryz.prog [(4,q),(2,q0),(3,q1),(1,q2),(10,q3),(11,q4),(12,q5),(13,q6),(14,q7),(0,q00)] [] Tryz.f218 = some c218 := by kernel_rfl
theorem e219 : cFn Tryz.prog [(30,q),(6,q0),(5,q1),(8,q2),(34,q3),(35,q4),(36,q5),(37,q6),(38,q7),(39,q00),(40,q10),(41,q20),(42,q30),(43,q40),(44,q50),(45,q60),(28,q70),(29,q01),(0,q11),(14,q21),(3,q31),(13,q41),(4,q51),(1,q61)] [] Tryz.f219 = some c219 := by kernel_rfl
theorem e220 : cFn Tryz.prog [(6,q),(0,q0),(1,q1),(2,q2)] [] Tryz.f220 = some c220 := by kernel_rfl
theorem e221 : cFn Tryz.prog [(2,q),(0,q0)] [] Tryz.f221 = some c221 := by kernel_rfl
theorem e222 : cFn Tryz.prog [(17,q),(54,q0),(8,q1),(9,q2),(12,q3),(1,q4),(11,q5),(0,q6),(7,q7),(2,q00),(16,q10),(53,q20),(6,q30),(10,q40)] [] Tryz.f222 = some c222 := by kernel_rfl
theorem e223 : cFn Tryz.prog [(59,q),(6,q0),(7,q1),(8,q2),(5,q3),(64,q4),(65,q5),(66,q6),(67,q7),(68,q00),(69,q10),(70,q20),(71,q30),(72,q40),(73,q50),(74,q60),(75,q70),(76,q01),(77,q11),(78,q21),(79,q31),(80,q41),(81,q51),(4,q61),(57,q71),(58,q02),(1,q12),(31,q22),(32,q32),(33,q42),(34,q52),(35,q62),(36,q72),(37,q03),(38,q13),(39,q23),(40,q33),(41,q43),(42,q53),(43,q63),(44,q73),(45,q04),(46,q14),(47,q24),(48,q34),(49,q44),(51,q54),(0,q64)] [16,61] Tryz.f223 = some c223 := by kernel_rfl
theorem e224 : cFn Tryz.prog [(6,q),(0,q0),(1,q1),(2,q2)] [] Tryz.f224 = some c224 := by kernel_rfl
theorem e225 : cFn Tryz.prog [(3,q),(2,q0),(1,q1),(0,q2)] [] Tryz.f225 = some c225 := by kernel_rfl
theorem e226 : cFn Tryz.prog [(2,q),(0,q0)] [] Tryz.f226 = some c226 := by kernel_rfl
theorem e227 : cFn Tryz.prog [(8,q),(19,q0),(9,q1),(10,q2),(0,q3),(1,q4),(7,q5),(18,q6),(2,q7),(6,q00)] [] Tryz.f227 = some c227 := by kernel_rfl
theorem e228 : cFn Tryz.prog [(2,q),(1,q0),(0,q1)] [] Tryz.f228 = some c228 := by kernel_rfl
theorem e229 : cFn Tryz.prog [(5,q),(0,q0),(4,q1),(1,q2)] [] Tryz.f229 = some c229 := by kernel_rfl
theorem e230 : cFn Tryz.prog [(2,q),(0,q0)] [] Tryz.f230 = some c230 := by kernel_rfl
theorem e231 : cFn Tryz.prog [(59,q),(12,q0),(11,q1),(8,q2),(58,q3),(4,q4),(5,q5),(6,q6),(7,q7),(10,q00),(0,q10),(9,q20),(67,q30),(68,q40),(69,q50),(70,q60),(71,q70),(1,q01)] [] Tryz.f231 = some c231 := by kernel_rfl
def L4 : List (Nat × CFn) := [(189,c189),(190,c190),(191,c191),(192,c192),(193,c193),(194,c194),(195,c195),(196,c196),(197,c197),(198,c198),(199,c199),(200,c200),(201,c201),(203,c203),(204,c204),(205,c205),(206,c206),(207,c207),(208,c208),(209,c209),(210,c210),(211,c211),(214,c214),(215,c215),(216,c216),(217,c217),(218,c218),(219,c219),(220,c220),(221,c221),(222,c222),(223,c223),(224,c224),(225,c225),(226,c226),(227,c227),(228,c228),(229,c229),(230,c230),(231,c231)]
theorem g4 : ∀ x ∈ L4, Good Tryz.prog x := List.forall_mem_cons.2 ⟨⟨_, _, _, Tryz.func189, e189⟩, List.forall_mem_cons.2 ⟨⟨_, _, _, Tryz.func190, e190⟩, List.forall_mem_cons.2 ⟨⟨_, _, _, Tryz.func191, e191⟩, List.forall_mem_cons.2 ⟨⟨_, _, _, Tryz.func192, e192⟩, List.forall_mem_cons.2 ⟨⟨_, _, _, Tryz.func193, e193⟩, List.forall_mem_cons.2 ⟨⟨_, _, _, Tryz.func194, e194⟩, List.forall_mem_cons.2 ⟨⟨_, _, _, Tryz.func195, e195⟩, List.forall_mem_cons.2 ⟨⟨_, _, _, Tryz.func196, e196⟩, List.forall_mem_cons.2 ⟨⟨_, _, _, Tryz.func197, e197⟩, List.forall_mem_cons.2 ⟨⟨_, _, _, Tryz.func198, e198⟩, List.forall_mem_cons.2 ⟨⟨_, _, _, Tryz.func199, e199⟩, List.forall_mem_cons.2 ⟨⟨_, _, _, Tryz.func200, e200⟩, List.forall_mem_cons.2 ⟨⟨_, _, _, Tryz.func201, e201⟩, List.forall_mem_cons.2 ⟨⟨_, _, _, Tryz.func203, e203⟩, List.forall_mem_cons.2 ⟨⟨_, _, _, Tryz.func204, e204⟩, List.forall_mem_cons.2 ⟨⟨_, _, _, Tryz.func205, e205⟩, List.forall_mem_cons.2 ⟨⟨_, _, _, Tryz.func206, e206⟩, List.forall_mem_cons.2 ⟨⟨_, _, _, Tryz.func207, e207⟩, List.forall_mem_cons.2 ⟨⟨_, _, _, Tryz.func208, e208⟩, List.forall_mem_cons.2 ⟨⟨_, _, _, Tryz.func209, e209⟩, List.forall_mem_cons.2 ⟨⟨_, _, _, Tryz.func210, e210⟩, List.forall_mem_cons.2 ⟨⟨_, _, _, Tryz.func211, e211⟩, List.forall_mem_cons.2 ⟨⟨_, _, _, Tryz.func214, e214⟩, List.forall_mem_cons.2 ⟨⟨_, _, _, Tryz.func215, e215⟩, List.forall_mem_cons.2 ⟨⟨_, _, _, Tryz.func216, e216⟩, List.forall_mem_cons.2 ⟨⟨_, _, _, Tryz.func217, e217⟩, List.forall_mem_cons.2 ⟨⟨_, _, _, Tryz.func218, e218⟩, List.forall_mem_cons.2 ⟨⟨_, _, _, Tryz.func219, e219⟩, List.forall_mem_cons.2 ⟨⟨_, _, _, Tryz.func220, e220⟩, List.forall_mem_cons.2 ⟨⟨_, _, _, Tryz.func221, e221⟩, List.forall_mem_cons.2 ⟨⟨_, _, _, Tryz.func222, e222⟩, List.forall_mem_cons.2 ⟨⟨_, _, _, Tryz.func223, e223⟩, List.forall_mem_cons.2 ⟨⟨_, _, _, Tryz.func224, e224⟩, List.forall_mem_cons.2 ⟨⟨_, _, _, Tryz.func225, e225⟩, List.forall_mem_cons.2 ⟨⟨_, _, _, Tryz.func226, e226⟩, List.forall_mem_cons.2 ⟨⟨_, _, _, Tryz.func227, e227⟩, List.forall_mem_cons.2 ⟨⟨_, _, _, Tryz.func228, e228⟩, List.forall_mem_cons.2 ⟨⟨_, _, _, Tryz.func229, e229⟩, List.forall_mem_cons.2 ⟨⟨_, _, _, Tryz.func230, e230⟩, List.forall_mem_cons.2 ⟨⟨_, _, _, Tryz.func231, e231⟩, fun _ h => (by cases h)⟩⟩⟩⟩⟩⟩⟩⟩⟩⟩⟩⟩⟩⟩⟩⟩⟩⟩⟩⟩⟩⟩⟩⟩⟩⟩⟩⟩⟩⟩⟩⟩⟩⟩⟩⟩⟩⟩⟩⟩
theorem h192 : Good Tryz.prog (192, c192) := ⟨_, _, _, Tryz.func192, e192⟩
end Go.Ex.KP
