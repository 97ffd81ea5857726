/- The worlds of Manin symbols, at each Spec in question. Conditions: none. -/
import Derived.Test.YtohlgneeifkikaaGreatDoorMAQ
set_option maxRecDepth 1000000
set_option maxHeartbeats 0
set_option linter.unusedVariables false
noncomputable section
namespace Go.Ex.KE
open Go Go.Ex Go.Ex.KD
def rowOf(H:AH)(c:Pth):List AVal:=match H.m.get .dead c with
 |.arr _ _ d e=>elem 0 d e
 |_=>[]
def cE(H:AH):AVal->Pth×Pth×Pth
 |.tup (.ptr c3 _::_)=>match rowOf H c3 with
  |[_,_,.sg c1 _ _ _,.sl c2 _ _ _]=>(c1,c2,c3)
  |_=>(.e,.e,.e)
 |_=>(.e,.e,.e)
def rE(s:Nat×Nat×Int):R:=(KY6.F5 (κ:=κE)).k [.agg [.int .i64 (.ofNat s.1),.int .i64 (.ofNat s.2.1),.int .i64 s.2.2]] (roHeap q2 KY6.ro0)
def R5(s:Nat×Nat×Int)(c:Pth×Pth×Pth):Bool:=isRes (Ii KY6.ro0 s.1 s.2.1 s.2.2 c.1 c.2.1 c.2.2) (rE s)&&((Fu s.1 s.2.2).all (λr=>r.all flat1)&&(!pthEq c.1 c.2.1&&(!pthEq c.1 c.2.2&&!pthEq c.2.1 c.2.2)))
def Fi(s:Nat×Nat×Int):Bool:=R5 s (R.rec (motive:=λ_=>Pth×Pth×Pth) (.e,.e,.e) (λv H=>cE H v) (rE s))
theorem B6:((Fc.drop 0).take 74).all Fi=true:=by kernel_rfl
theorem B7:((Fc.drop 74).take 13).all Fi=true:=by kernel_rfl
theorem B8:((Fc.drop 87).take 8).all Fi=true:=by kernel_rfl
theorem B9:((Fc.drop 95).take 6).all Fi=true:=by kernel_rfl
theorem B_:((Fc.drop 101).take 4).all Fi=true:=by kernel_rfl
theorem Ca:((Fc.drop 105).take 3).all Fi=true:=by kernel_rfl
theorem Cb:((Fc.drop 108).take 3).all Fi=true:=by kernel_rfl
theorem Cc:((Fc.drop 111).take 3).all Fi=true:=by kernel_rfl
theorem Cd:((Fc.drop 114).take 2).all Fi=true:=by kernel_rfl
theorem Ce:((Fc.drop 116).take 2).all Fi=true:=by kernel_rfl
theorem Cf:((Fc.drop 118).take 2).all Fi=true:=by kernel_rfl
theorem Cg:((Fc.drop 120).take 2).all Fi=true:=by kernel_rfl
theorem Ch:((Fc.drop 122).take 2).all Fi=true:=by kernel_rfl
theorem Ci:((Fc.drop 124).take 1).all Fi=true:=by kernel_rfl
theorem Cj:((Fc.drop 125).take 1).all Fi=true:=by kernel_rfl
theorem Ck:((Fc.drop 126).take 1).all Fi=true:=by kernel_rfl
theorem Cm:((Fc.drop 127).take 1).all Fi=true:=by kernel_rfl
theorem Cn:((Fc.drop 128).take 1).all Fi=true:=by kernel_rfl
theorem Co:((Fc.drop 129).take 1).all Fi=true:=by kernel_rfl
theorem Cp:((Fc.drop 130).take 1).all Fi=true:=by kernel_rfl
theorem Cq:((Fc.drop 131).take 1).all Fi=true:=by kernel_rfl
end Go.Ex.KE
