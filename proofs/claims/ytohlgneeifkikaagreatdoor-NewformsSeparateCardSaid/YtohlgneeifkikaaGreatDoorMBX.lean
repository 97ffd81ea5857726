/- What small functions of one integer return, a part of their tables. Conditions: none. -/
import Derived.Test.YtohlgneeifkikaaGreatDoorMAQ
set_option maxRecDepth 1000000
set_option maxHeartbeats 0
set_option linter.unusedVariables false
noncomputable section
namespace Go.Ex.KV
open Go Go.Ex Go.Ex.KD
theorem u0:allL (λd=>okFund (fundB d) ((KY6.K90 (κ:=κB)).k [.int .i64 d] hE)) (rng (-120) 241)=true:=by kernel_rfl
end Go.Ex.KV
namespace Go.Ex.KV
open Go Go.Ex Go.Ex.KD
theorem u1:allL (λd=>okBool (fundB d&&!(intEq d 1)) ((KY6.K113 (κ:=κB)).k [.int .i64 d] hE)) (rng (-120) 241)=true:=by kernel_rfl
end Go.Ex.KV
namespace Go.Ex.KV
open Go Go.Ex Go.Ex.KD
theorem u2:allL (λd=>okPair (psiT d) ((KY6.K37 (κ:=κB)).k [.int .i64 d] hE)) (rng (1) 120)=true:=by kernel_rfl
end Go.Ex.KV
namespace Go.Ex.KV
open Go Go.Ex Go.Ex.KD
theorem u3:allL (λd=>okInt (psiT d) ((KY6.K114 (κ:=κB)).k [.int .i64 d] hE)) (rng (1) 70)=true:=by kernel_rfl
end Go.Ex.KV
namespace Go.Ex.KV
open Go Go.Ex Go.Ex.KD
theorem u4:allL (λd=>okInt (psiT d) ((KY6.K114 (κ:=κB)).k [.int .i64 d] hE)) (rng (71) 18)=true:=by kernel_rfl
end Go.Ex.KV
namespace Go.Ex.KV
open Go Go.Ex Go.Ex.KD
theorem u5:allL (λd=>okInt (psiT d) ((KY6.K114 (κ:=κB)).k [.int .i64 d] hE)) (rng (89) 13)=true:=by kernel_rfl
end Go.Ex.KV
namespace Go.Ex.KV
open Go Go.Ex Go.Ex.KD
theorem u6:allL (λd=>okInt (psiT d) ((KY6.K114 (κ:=κB)).k [.int .i64 d] hE)) (rng (102) 10)=true:=by kernel_rfl
end Go.Ex.KV
namespace Go.Ex.KV
open Go Go.Ex Go.Ex.KD
theorem u7:allL (λd=>okInt (psiT d) ((KY6.K114 (κ:=κB)).k [.int .i64 d] hE)) (rng (112) 8)=true:=by kernel_rfl
end Go.Ex.KV
namespace Go.Ex.KV
open Go Go.Ex Go.Ex.KD
theorem u8:allL (λd=>okInt (psiT d) ((KY6.K114 (κ:=κB)).k [.int .i64 d] hE)) (rng (120) 1)=true:=by kernel_rfl
end Go.Ex.KV
