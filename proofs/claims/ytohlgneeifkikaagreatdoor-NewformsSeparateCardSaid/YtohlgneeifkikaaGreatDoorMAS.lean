/- The lists of points of the projective line, at each level in question. Conditions: none. -/
import Derived.Test.YtohlgneeifkikaaGreatDoorMAQ
set_option maxRecDepth 1000000
set_option maxHeartbeats 0
set_option linter.unusedVariables false
noncomputable section
namespace Go.Ex.KL
open Go Go.Ex Go.Ex.KD
def WC:AVal->Pth
 |.tup (.sg c _ _ _::_)=>c
 |_=>.e
def rL(n:Nat):R:=(KY6.I5 (κ:=κ0)).k [.int .i64 (.ofNat n)] ⟨q2,.nil⟩
def cL(n:Nat):Pth:=R.rec (motive:=λ_=>Pth) .e (λv _=>WC v) (rL n)
def Gk(n:Nat):Bool:=isRes (Kx n (cL n)) (rL n)
theorem BS:(((FG.map (·.1)).drop 0).take 16).all Gk=true:=by kernel_rfl
theorem BU:(((FG.map (·.1)).drop 16).take 6).all Gk=true:=by kernel_rfl
theorem BV:(((FG.map (·.1)).drop 22).take 4).all Gk=true:=by kernel_rfl
theorem BW:(((FG.map (·.1)).drop 26).take 3).all Gk=true:=by kernel_rfl
theorem BX:(((FG.map (·.1)).drop 29).take 2).all Gk=true:=by kernel_rfl
theorem BY:(((FG.map (·.1)).drop 31).take 2).all Gk=true:=by kernel_rfl
theorem BZ:(((FG.map (·.1)).drop 33).take 1).all Gk=true:=by kernel_rfl
theorem B0:(((FG.map (·.1)).drop 34).take 1).all Gk=true:=by kernel_rfl
theorem B5:(((FG.map (·.1)).drop 35).take 2).all Gk=true:=by kernel_rfl
end Go.Ex.KL
