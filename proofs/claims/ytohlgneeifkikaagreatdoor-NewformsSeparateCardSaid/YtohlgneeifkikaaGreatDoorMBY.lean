/- What small functions of one integer return, a part of their tables. Conditions: none. -/
import Derived.Test.YtohlgneeifkikaaGreatDoorMAQ
set_option maxRecDepth 1000000
set_option maxHeartbeats 0
set_option linter.unusedVariables false
noncomputable section
namespace Go.Ex.KV
open Go Go.Ex Go.Ex.KD
theorem u9:allL (λd=>okInt (psiT d) ((KY6.K56 (κ:=κB)).k [.int .i64 d] hE)) (rng (1) 41)=true:=by kernel_rfl
end Go.Ex.KV
namespace Go.Ex.KV
open Go Go.Ex Go.Ex.KD
theorem u10:allL (λd=>okInt (psiT d) ((KY6.K56 (κ:=κB)).k [.int .i64 d] hE)) (rng (42) 10)=true:=by kernel_rfl
end Go.Ex.KV
namespace Go.Ex.KV
open Go Go.Ex Go.Ex.KD
theorem u11:allL (λd=>okInt (psiT d) ((KY6.K56 (κ:=κB)).k [.int .i64 d] hE)) (rng (52) 7)=true:=by kernel_rfl
end Go.Ex.KV
namespace Go.Ex.KV
open Go Go.Ex Go.Ex.KD
theorem u12:allL (λd=>okInt (psiT d) ((KY6.K56 (κ:=κB)).k [.int .i64 d] hE)) (rng (59) 6)=true:=by kernel_rfl
end Go.Ex.KV
namespace Go.Ex.KV
open Go Go.Ex Go.Ex.KD
theorem u13:allL (λd=>okInt (psiT d) ((KY6.K56 (κ:=κB)).k [.int .i64 d] hE)) (rng (65) 5)=true:=by kernel_rfl
end Go.Ex.KV
namespace Go.Ex.KV
open Go Go.Ex Go.Ex.KD
theorem u14:allL (λd=>okInt (psiT d) ((KY6.K56 (κ:=κB)).k [.int .i64 d] hE)) (rng (70) 4)=true:=by kernel_rfl
end Go.Ex.KV
namespace Go.Ex.KV
open Go Go.Ex Go.Ex.KD
theorem u15:allL (λd=>okInt (psiT d) ((KY6.K56 (κ:=κB)).k [.int .i64 d] hE)) (rng (74) 4)=true:=by kernel_rfl
end Go.Ex.KV
namespace Go.Ex.KV
open Go Go.Ex Go.Ex.KD
theorem u16:allL (λd=>okInt (psiT d) ((KY6.K56 (κ:=κB)).k [.int .i64 d] hE)) (rng (78) 3)=true:=by kernel_rfl
end Go.Ex.KV
namespace Go.Ex.KV
open Go Go.Ex Go.Ex.KD
theorem u17:allL (λd=>okInt (psiT d) ((KY6.K56 (κ:=κB)).k [.int .i64 d] hE)) (rng (81) 3)=true:=by kernel_rfl
end Go.Ex.KV
