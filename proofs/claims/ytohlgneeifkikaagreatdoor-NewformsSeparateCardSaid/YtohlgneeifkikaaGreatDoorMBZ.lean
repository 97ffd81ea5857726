/- What small functions of one integer return, a part of their tables. Conditions: none. -/
import Derived.Test.YtohlgneeifkikaaGreatDoorMAQ
set_option maxRecDepth 1000000
set_option maxHeartbeats 0
set_option linter.unusedVariables false
noncomputable section
namespace Go.Ex.KV
open Go Go.Ex Go.Ex.KD
theorem u18:allL (λd=>okInt (psiT d) ((KY6.K56 (κ:=κB)).k [.int .i64 d] hE)) (rng (84) 3)=true:=by kernel_rfl
end Go.Ex.KV
namespace Go.Ex.KV
open Go Go.Ex Go.Ex.KD
theorem u19:allL (λd=>okInt (psiT d) ((KY6.K56 (κ:=κB)).k [.int .i64 d] hE)) (rng (87) 3)=true:=by kernel_rfl
end Go.Ex.KV
namespace Go.Ex.KV
open Go Go.Ex Go.Ex.KD
theorem u20:allL (λd=>okInt (psiT d) ((KY6.K56 (κ:=κB)).k [.int .i64 d] hE)) (rng (90) 2)=true:=by kernel_rfl
end Go.Ex.KV
namespace Go.Ex.KV
open Go Go.Ex Go.Ex.KD
theorem u21:allL (λd=>okInt (psiT d) ((KY6.K56 (κ:=κB)).k [.int .i64 d] hE)) (rng (92) 2)=true:=by kernel_rfl
end Go.Ex.KV
namespace Go.Ex.KV
open Go Go.Ex Go.Ex.KD
theorem u22:allL (λd=>okInt (psiT d) ((KY6.K56 (κ:=κB)).k [.int .i64 d] hE)) (rng (94) 2)=true:=by kernel_rfl
end Go.Ex.KV
namespace Go.Ex.KV
open Go Go.Ex Go.Ex.KD
theorem u23:allL (λd=>okInt (psiT d) ((KY6.K56 (κ:=κB)).k [.int .i64 d] hE)) (rng (96) 2)=true:=by kernel_rfl
end Go.Ex.KV
namespace Go.Ex.KV
open Go Go.Ex Go.Ex.KD
theorem u24:allL (λd=>okInt (psiT d) ((KY6.K56 (κ:=κB)).k [.int .i64 d] hE)) (rng (98) 2)=true:=by kernel_rfl
end Go.Ex.KV
namespace Go.Ex.KV
open Go Go.Ex Go.Ex.KD
theorem u25:allL (λd=>okInt (psiT d) ((KY6.K56 (κ:=κB)).k [.int .i64 d] hE)) (rng (100) 2)=true:=by kernel_rfl
end Go.Ex.KV
namespace Go.Ex.KV
open Go Go.Ex Go.Ex.KD
theorem u26:allL (λd=>okInt (psiT d) ((KY6.K56 (κ:=κB)).k [.int .i64 d] hE)) (rng (102) 2)=true:=by kernel_rfl
end Go.Ex.KV
