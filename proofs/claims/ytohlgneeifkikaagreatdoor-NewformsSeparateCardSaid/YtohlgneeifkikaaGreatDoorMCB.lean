/- What small functions of one integer return, a part of their tables. Conditions: none. -/
import Derived.Test.YtohlgneeifkikaaGreatDoorMAQ
set_option maxRecDepth 1000000
set_option maxHeartbeats 0
set_option linter.unusedVariables false
noncomputable section
namespace Go.Ex.KV
open Go Go.Ex Go.Ex.KD
theorem u36:allL (λd=>okInt (psiT d) ((KY6.K56 (κ:=κB)).k [.int .i64 d] hE)) (rng (116) 1)=true:=by kernel_rfl
end Go.Ex.KV
namespace Go.Ex.KV
open Go Go.Ex Go.Ex.KD
theorem u37:allL (λd=>okInt (psiT d) ((KY6.K56 (κ:=κB)).k [.int .i64 d] hE)) (rng (117) 1)=true:=by kernel_rfl
end Go.Ex.KV
namespace Go.Ex.KV
open Go Go.Ex Go.Ex.KD
theorem u38:allL (λd=>okInt (psiT d) ((KY6.K56 (κ:=κB)).k [.int .i64 d] hE)) (rng (118) 1)=true:=by kernel_rfl
end Go.Ex.KV
namespace Go.Ex.KV
open Go Go.Ex Go.Ex.KD
theorem u39:allL (λd=>okInt (psiT d) ((KY6.K56 (κ:=κB)).k [.int .i64 d] hE)) (rng (119) 1)=true:=by kernel_rfl
end Go.Ex.KV
namespace Go.Ex.KV
open Go Go.Ex Go.Ex.KD
theorem u40:allL (λd=>okInt (psiT d) ((KY6.K56 (κ:=κB)).k [.int .i64 d] hE)) (rng (120) 1)=true:=by kernel_rfl
end Go.Ex.KV
