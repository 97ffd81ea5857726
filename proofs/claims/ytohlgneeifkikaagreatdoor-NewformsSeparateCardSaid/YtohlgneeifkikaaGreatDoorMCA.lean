/- What small functions of one integer return, a part of their tables. Conditions: none. -/
import Derived.Test.YtohlgneeifkikaaGreatDoorMAQ
set_option maxRecDepth 1000000
set_option maxHeartbeats 0
set_option linter.unusedVariables false
noncomputable section
namespace Go.Ex.KV
open Go Go.Ex Go.Ex.KD
theorem u27:allL (λd=>okInt (psiT d) ((KY6.K56 (κ:=κB)).k [.int .i64 d] hE)) (rng (104) 2)=true:=by kernel_rfl
end Go.Ex.KV
namespace Go.Ex.KV
open Go Go.Ex Go.Ex.KD
theorem u28:allL (λd=>okInt (psiT d) ((KY6.K56 (κ:=κB)).k [.int .i64 d] hE)) (rng (106) 2)=true:=by kernel_rfl
end Go.Ex.KV
namespace Go.Ex.KV
open Go Go.Ex Go.Ex.KD
theorem u29:allL (λd=>okInt (psiT d) ((KY6.K56 (κ:=κB)).k [.int .i64 d] hE)) (rng (108) 2)=true:=by kernel_rfl
end Go.Ex.KV
namespace Go.Ex.KV
open Go Go.Ex Go.Ex.KD
theorem u30:allL (λd=>okInt (psiT d) ((KY6.K56 (κ:=κB)).k [.int .i64 d] hE)) (rng (110) 1)=true:=by kernel_rfl
end Go.Ex.KV
namespace Go.Ex.KV
open Go Go.Ex Go.Ex.KD
theorem u31:allL (λd=>okInt (psiT d) ((KY6.K56 (κ:=κB)).k [.int .i64 d] hE)) (rng (111) 1)=true:=by kernel_rfl
end Go.Ex.KV
namespace Go.Ex.KV
open Go Go.Ex Go.Ex.KD
theorem u32:allL (λd=>okInt (psiT d) ((KY6.K56 (κ:=κB)).k [.int .i64 d] hE)) (rng (112) 1)=true:=by kernel_rfl
end Go.Ex.KV
namespace Go.Ex.KV
open Go Go.Ex Go.Ex.KD
theorem u33:allL (λd=>okInt (psiT d) ((KY6.K56 (κ:=κB)).k [.int .i64 d] hE)) (rng (113) 1)=true:=by kernel_rfl
end Go.Ex.KV
namespace Go.Ex.KV
open Go Go.Ex Go.Ex.KD
theorem u34:allL (λd=>okInt (psiT d) ((KY6.K56 (κ:=κB)).k [.int .i64 d] hE)) (rng (114) 1)=true:=by kernel_rfl
end Go.Ex.KV
namespace Go.Ex.KV
open Go Go.Ex Go.Ex.KD
theorem u35:allL (λd=>okInt (psiT d) ((KY6.K56 (κ:=κB)).k [.int .i64 d] hE)) (rng (115) 1)=true:=by kernel_rfl
end Go.Ex.KV
