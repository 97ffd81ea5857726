/- The functions of the program, compiled into the executor's language, a part of them. Conditions: none. -/
import Derived.Test.YtajoeeppiomfkaaGreatDoorExTabB
set_option maxRecDepth 100000
set_option linter.unusedVariables false
namespace Go.Ex.K
def c395 : CFn := ⟨[some q6,some q00],(.seq (.reg (.sm q5 (.k .snil)
  (.sm q0 (.k .snil)
  (.sm q7 (.k .snil)
  .fin))))
 (.seq (.reg (.pca q313 [(.t q6)]
  (.pca q313 [(.t q00)]
  (.sm q6 (.l x1)
  (.sm q00 (.l x0)
  .fin)))))
 (.seq (.regc (.pln (.t q00)
  (.pb .eql (.l x0) (.k (.int .i64 0))
  .fin)) (.l x0) (.seq (.regc (.pln (.t q6)
  (.pb .eql (.l x0) (.k (.int .i64 0))
  .fin)) (.l x0) (.seq (.reg (.sm q5 (.k .snil)
  (.sm q0 (.k .snil)
  (.sm q7 (.k .snil)
  .fin))))
 .ret) .skip)
 (.seq (.regd [(⟨(.slot q60),.call q24 [(.k (.int .i64 1))],none⟩,⟨3,0,1⟩),
  (⟨(.slot q70),.move (.t q6),none⟩,⟨0,0,1⟩),
  (⟨(.slot q01),.move (.t q6),none⟩,⟨0,0,1⟩),
  (⟨(.slot q11),.len (.t q01),none⟩,⟨0,0,1⟩),
  (⟨(.slot q21),.bin .sub (.t q11) (.k (.int .i64 1)),none⟩,⟨0,0,1⟩),
  (⟨(.slot q31),.iaddr 4 (.t q70) (.t q21),none⟩,⟨0,0,1⟩),
  (⟨(.slot q41),.load true 4 (.t q31),none⟩,⟨1,0,1⟩),
  (⟨(.slot q51),.call q671 [(.t q60),(.t q41)],none⟩,⟨3,1,2⟩),
  (⟨(.slot q30),.move (.t q51),none⟩,⟨0,2,2⟩),
  (⟨(.slot q61),.extract (.t q30) 0,none⟩,⟨0,2,2⟩),
  (⟨(.slot q71),.extract (.t q30) 1,none⟩,⟨0,2,3⟩),
  (⟨(.slot q20),.box (.k (.agg [(.bool false),.snil,(.bool false),.snil])),none⟩,⟨2,0,2⟩),
  (⟨.drop,.store 4 (.t q20) (.t q61),none⟩,⟨3,2,3⟩),
  (⟨.drop,.move (.t q71),none⟩,⟨0,3,3⟩)])
 (.seq (.regd [(⟨(.slot q02),.move (.t q6),none⟩,⟨0,0,0⟩),
  (⟨(.slot q12),.call q046 [(.t q02)],none⟩,⟨3,0,1⟩),
  (⟨(.slot q22),.load true 4 (.t q20),none⟩,⟨1,0,1⟩),
  (⟨(.slot q32),.bsl 4 1 [(.bool false),.snil,(.bool false),.snil] [(0,(.t q22))],none⟩,⟨2,0,1⟩),
  (⟨(.slot q5),.move (.t q12),none⟩,⟨0,1,1⟩),
  (⟨(.slot q0),.move (.t q32),none⟩,⟨0,1,1⟩),
  (⟨(.slot q7),.move (.k .snil),none⟩,⟨0,1,1⟩)])
 .ret))) .skip)
 (.seq (.reg (.gen ⟨.push,.move (.t q00),none⟩
  (.sm q2 (.t q6)
  (.sm q (.l x0)
  .fin))))
 (.seq (.reg (.pca q24 [(.k (.int .i64 1))]
  (.gen ⟨.push,.bsl 4 1 [(.bool false),.snil,(.bool false),.snil] [(0,(.l x0))],none⟩
  (.gen ⟨.push,.bsl 4 0 [(.bool false),.snil,(.bool false),.snil] [],none⟩
  (.sm q0 (.l x1)
  (.sm q1 (.l x0)
  .fin))))))
 (.seq (.block 0 (.loop (.seq (.regc (.pln (.t q)
  (.pb .gtr (.l x0) (.k (.int .i64 0))
  .fin)) (.l x0) .skip (.exit 0))
 (.block 1 (.seq (.reg (.pca q733 [(.t q2),(.t q)]
  (.pex (.l x0) 0
  (.pex (.l x1) 1
  (.sm q3 (.l x1)
  (.sm q4 (.l x0)
  .fin))))))
 (.seq (.reg (.gen ⟨.push,.move (.t q4),none⟩
  (.sm q2 (.t q)
  (.sm q (.l x0)
  .fin))))
 (.reg (.pca q032 [(.t q3),(.t q1)]
  (.pca q722 [(.t q0),(.l x0)]
  (.sm q0 (.t q1)
  (.sm q1 (.l x0)
  .fin)))))))))))
 (.seq (.regd [(⟨(.slot q42),.call q24 [(.k (.int .i64 1))],none⟩,⟨3,0,1⟩),
  (⟨(.slot q52),.move (.t q2),none⟩,⟨0,0,1⟩),
  (⟨(.slot q62),.move (.t q2),none⟩,⟨0,0,1⟩),
  (⟨(.slot q72),.len (.t q62),none⟩,⟨0,0,1⟩),
  (⟨(.slot q03),.bin .sub (.t q72) (.k (.int .i64 1)),none⟩,⟨0,0,1⟩),
  (⟨(.slot q13),.iaddr 4 (.t q52) (.t q03),none⟩,⟨0,0,1⟩),
  (⟨(.slot q23),.load true 4 (.t q13),none⟩,⟨1,0,1⟩),
  (⟨(.slot q33),.call q671 [(.t q42),(.t q23)],none⟩,⟨3,1,2⟩),
  (⟨(.slot q40),.move (.t q33),none⟩,⟨0,2,2⟩),
  (⟨(.slot q43),.extract (.t q40) 0,none⟩,⟨0,2,2⟩),
  (⟨(.slot q53),.extract (.t q40) 1,none⟩,⟨0,2,3⟩),
  (⟨(.slot q10),.box (.k (.agg [(.bool false),.snil,(.bool false),.snil])),none⟩,⟨2,0,2⟩),
  (⟨.drop,.store 4 (.t q10) (.t q43),none⟩,⟨3,2,3⟩),
  (⟨.drop,.move (.t q53),none⟩,⟨0,3,3⟩)])
 (.seq (.regd [(⟨(.slot q63),.move (.t q2),none⟩,⟨0,0,0⟩),
  (⟨(.slot q73),.load true 4 (.t q10),none⟩,⟨1,0,0⟩),
  (⟨(.slot q04),.call q113 [(.t q63),(.t q73)],none⟩,⟨3,0,1⟩),
  (⟨(.slot q14),.move (.t q0),none⟩,⟨0,0,1⟩),
  (⟨(.slot q24),.load true 4 (.t q10),none⟩,⟨1,0,1⟩),
  (⟨(.slot q34),.call q113 [(.t q14),(.t q24)],none⟩,⟨3,1,2⟩),
  (⟨(.slot q5),.move (.t q04),none⟩,⟨0,2,2⟩),
  (⟨(.slot q0),.move (.t q34),none⟩,⟨0,2,2⟩)])
 (.seq (.reg (.pca q733 [(.t q00),(.t q5)]
  (.pex (.l x0) 0
  (.pex (.l x1) 1
  (.sm q50 (.l x1)
  .fin)))))
 (.seq (.reg (.pca q733 [(.t q0),(.t q50)]
  (.pex (.l x0) 0
  (.pex (.l x1) 1
  (.sm q0 (.l x0)
  .fin)))))
 (.seq (.reg (.pca q032 [(.t q0),(.t q6)]
  (.pca q722 [(.t q5),(.l x0)]
  (.pca q733 [(.l x0),(.t q00)]
  (.pex (.l x0) 0
  (.pex (.l x1) 1
  (.sm q7 (.l x1)
  .fin)))))))
 (.seq (.reg (.gen ⟨.push,.move (.t q0),none⟩
  (.gen ⟨.push,.move (.t q7),none⟩
  (.sm q5 (.t q5)
  (.sm q0 (.l x1)
  (.sm q7 (.l x0)
  .fin))))))
 .ret)))))))))))),[(q5,none),(q0,none),(q7,none)],[]⟩
def c396 : CFn := ⟨[some q1,some q03,some q23],(.seq (.reg (.pb .add (.t q03) (.k (.int .i64 1))
  (.sm q13 (.l x0)
  .fin)))
 (.block 0 (.loop (.seq (.regc (.pb .lss (.t q13) (.t q23)
  .fin) (.l x0) .skip (.exit 0))
 (.seq (.block 1 (.seq (.reg (.sm q0 (.t q13)
  .fin))
 (.block 2 (.loop (.seq (.seq (.regd [(⟨(.slot q2),.move (.t q0),none⟩,⟨0,0,0⟩),
  (⟨(.slot q3),.move (.t q03),none⟩,⟨0,0,0⟩),
  (⟨(.slot q4),.bin .gtr (.t q2) (.t q3),none⟩,⟨0,0,0⟩),
  (⟨(.slot q),.move (.t q4),none⟩,⟨0,0,0⟩),
  (⟨(.slot q5),.move (.t q1),some ((.t q),true)⟩,⟨0,0,0⟩),
  (⟨(.slot q6),.move (.t q0),some ((.t q),true)⟩,⟨0,0,0⟩),
  (⟨(.slot q7),.iaddr 1 (.t q5) (.t q6),some ((.t q),true)⟩,⟨0,0,0⟩),
  (⟨(.slot q00),.load false 1 (.t q7),some ((.t q),true)⟩,⟨1,0,0⟩),
  (⟨(.slot q10),.move (.t q1),some ((.t q),true)⟩,⟨0,0,0⟩),
  (⟨(.slot q20),.move (.t q0),some ((.t q),true)⟩,⟨0,0,0⟩),
  (⟨(.slot q30),.bin .sub (.t q20) (.k (.int .i64 1)),some ((.t q),true)⟩,⟨0,0,0⟩),
  (⟨(.slot q40),.iaddr 1 (.t q10) (.t q30),some ((.t q),true)⟩,⟨0,0,0⟩),
  (⟨(.slot q50),.load false 1 (.t q40),some ((.t q),true)⟩,⟨1,0,0⟩),
  (⟨(.slot q60),.call q226 [(.t q00),(.t q50)],some ((.t q),true)⟩,⟨3,0,1⟩),
  (⟨(.slot q70),.pick (.t q) (.t q60) (.k (.bool false)),none⟩,⟨0,1,1⟩)])
 (.cond (.t q70) .skip (.exit 2)))
 (.seq (.block 3 (.regd [(⟨(.slot q01),.move (.t q1),none⟩,⟨0,0,0⟩),
  (⟨(.slot q11),.move (.t q0),none⟩,⟨0,0,0⟩),
  (⟨(.slot q21),.move (.t q1),none⟩,⟨0,0,1⟩),
  (⟨(.slot q31),.move (.t q0),none⟩,⟨0,0,1⟩),
  (⟨(.slot q41),.bin .sub (.t q31) (.k (.int .i64 1)),none⟩,⟨0,0,1⟩),
  (⟨(.slot q51),.move (.t q1),none⟩,⟨0,0,0⟩),
  (⟨(.slot q61),.move (.t q0),none⟩,⟨0,0,0⟩),
  (⟨(.slot q71),.bin .sub (.t q61) (.k (.int .i64 1)),none⟩,⟨0,0,0⟩),
  (⟨(.slot q02),.iaddr 1 (.t q51) (.t q71),none⟩,⟨0,0,0⟩),
  (⟨(.slot q12),.load false 1 (.t q02),none⟩,⟨1,0,0⟩),
  (⟨(.slot q22),.move (.t q1),none⟩,⟨0,0,0⟩),
  (⟨(.slot q32),.move (.t q0),none⟩,⟨0,0,0⟩),
  (⟨(.slot q42),.iaddr 1 (.t q22) (.t q32),none⟩,⟨0,0,0⟩),
  (⟨(.slot q52),.load false 1 (.t q42),none⟩,⟨1,0,0⟩),
  (⟨(.slot q62),.iaddr 1 (.t q01) (.t q11),none⟩,⟨0,0,0⟩),
  (⟨.drop,.store 1 (.t q62) (.t q12),none⟩,⟨3,0,1⟩),
  (⟨(.slot q72),.iaddr 1 (.t q21) (.t q41),none⟩,⟨0,1,1⟩),
  (⟨.drop,.store 1 (.t q72) (.t q52),none⟩,⟨3,1,2⟩)]))
 (.reg (.pb .sub (.t q0) (.k (.int .i64 1))
  (.sm q0 (.l x0)
  .fin)))))))))
 (.reg (.pb .add (.t q13) (.k (.int .i64 1))
  (.sm q13 (.l x0)
  .fin)))))))),[],[]⟩
def c402 : CFn := ⟨[some q0,some q1],(.seq (.reg (.sm q (.k (.bool false))
  .fin))
 (.seq (.reg (.pca q605 [(.t q0)]
  (.gen ⟨.push,.move (.t q1),some ((.l x0),true)⟩
  (.gen ⟨.push,.call q605 [(.l x0)],some ((.l x1),true)⟩
  (.gen ⟨.push,.un .not (.l x0),some ((.l x2),true)⟩
  (.gen ⟨.push,.pick (.l x3) (.l x0) (.k (.bool false)),none⟩
  (.gen ⟨.push,.move (.t q0),some ((.l x0),false)⟩
  (.gen ⟨.push,.move (.t q1),some ((.l x1),false)⟩
  (.gen ⟨.push,.bin .lss (.l x1) (.l x0),some ((.l x2),false)⟩
  (.gen ⟨.push,.pick (.l x3) (.k (.bool true)) (.l x0),none⟩
  (.sm q (.l x0)
  .fin)))))))))))
 .ret)),[(q,none)],[]⟩
def c405 : CFn := ⟨[],(.seq (.reg (.sm q (.k .snil)
  .fin))
 (.seq (.reg (.gen ⟨.push,.bsl 1 2 [(.int .i64 0)] [(0,(.k (.int .i64 0))),(1,(.k (.int .i64 1)))],none⟩
  (.sm q (.l x0)
  .fin)))
 .ret)),[(q,none)],[]⟩
def c408 : CFn := ⟨[some q1,some q23,some q53,some q33],(.seq (.reg (.pb .add (.t q23) (.k (.int .i64 1))
  (.sm q43 (.l x0)
  .fin)))
 (.block 0 (.loop (.seq (.regc (.pb .lss (.t q43) (.t q53)
  .fin) (.l x0) .skip (.exit 0))
 (.seq (.block 1 (.seq (.reg (.sm q0 (.t q43)
  .fin))
 (.block 2 (.loop (.seq (.seq (.regd [(⟨(.slot q2),.move (.t q0),none⟩,⟨0,0,0⟩),
  (⟨(.slot q3),.move (.t q23),none⟩,⟨0,0,0⟩),
  (⟨(.slot q4),.bin .gtr (.t q2) (.t q3),none⟩,⟨0,0,0⟩),
  (⟨(.slot q),.move (.t q4),none⟩,⟨0,0,0⟩),
  (⟨(.slot q5),.move (.t q33),some ((.t q),true)⟩,⟨0,0,0⟩),
  (⟨(.slot q6),.move (.t q1),some ((.t q),true)⟩,⟨0,0,0⟩),
  (⟨(.slot q7),.move (.t q0),some ((.t q),true)⟩,⟨0,0,0⟩),
  (⟨(.slot q00),.iaddr 2 (.t q6) (.t q7),some ((.t q),true)⟩,⟨0,0,0⟩),
  (⟨(.slot q10),.load true 2 (.t q00),some ((.t q),true)⟩,⟨1,0,0⟩),
  (⟨(.slot q20),.move (.t q1),some ((.t q),true)⟩,⟨0,0,0⟩),
  (⟨(.slot q30),.move (.t q0),some ((.t q),true)⟩,⟨0,0,0⟩),
  (⟨(.slot q40),.bin .sub (.t q30) (.k (.int .i64 1)),some ((.t q),true)⟩,⟨0,0,0⟩),
  (⟨(.slot q50),.iaddr 2 (.t q20) (.t q40),some ((.t q),true)⟩,⟨0,0,0⟩),
  (⟨(.slot q60),.load true 2 (.t q50),some ((.t q),true)⟩,⟨1,0,0⟩),
  (⟨(.slot q70),.callv (.t q5) [(.t q10),(.t q60)],some ((.t q),true)⟩,⟨3,0,1⟩),
  (⟨(.slot q01),.bin .lss (.t q70) (.k (.int .i64 0)),some ((.t q),true)⟩,⟨0,1,1⟩),
  (⟨(.slot q11),.pick (.t q) (.t q01) (.k (.bool false)),none⟩,⟨0,1,1⟩)])
 (.cond (.t q11) .skip (.exit 2)))
 (.seq (.block 3 (.regd [(⟨(.slot q21),.move (.t q1),none⟩,⟨0,0,0⟩),
  (⟨(.slot q31),.move (.t q0),none⟩,⟨0,0,0⟩),
  (⟨(.slot q41),.move (.t q1),none⟩,⟨0,0,1⟩),
  (⟨(.slot q51),.move (.t q0),none⟩,⟨0,0,1⟩),
  (⟨(.slot q61),.bin .sub (.t q51) (.k (.int .i64 1)),none⟩,⟨0,0,1⟩),
  (⟨(.slot q71),.move (.t q1),none⟩,⟨0,0,0⟩),
  (⟨(.slot q02),.move (.t q0),none⟩,⟨0,0,0⟩),
  (⟨(.slot q12),.bin .sub (.t q02) (.k (.int .i64 1)),none⟩,⟨0,0,0⟩),
  (⟨(.slot q22),.iaddr 2 (.t q71) (.t q12),none⟩,⟨0,0,0⟩),
  (⟨(.slot q32),.load true 2 (.t q22),none⟩,⟨1,0,0⟩),
  (⟨(.slot q42),.move (.t q1),none⟩,⟨0,0,0⟩),
  (⟨(.slot q52),.move (.t q0),none⟩,⟨0,0,0⟩),
  (⟨(.slot q62),.iaddr 2 (.t q42) (.t q52),none⟩,⟨0,0,0⟩),
  (⟨(.slot q72),.load true 2 (.t q62),none⟩,⟨1,0,0⟩),
  (⟨(.slot q03),.iaddr 2 (.t q21) (.t q31),none⟩,⟨0,0,0⟩),
  (⟨.drop,.store 2 (.t q03) (.t q32),none⟩,⟨3,0,1⟩),
  (⟨(.slot q13),.iaddr 2 (.t q41) (.t q61),none⟩,⟨0,1,1⟩),
  (⟨.drop,.store 2 (.t q13) (.t q72),none⟩,⟨3,1,2⟩)]))
 (.reg (.pb .sub (.t q0) (.k (.int .i64 1))
  (.sm q0 (.l x0)
  .fin)))))))))
 (.reg (.pb .add (.t q43) (.k (.int .i64 1))
  (.sm q43 (.l x0)
  .fin)))))))),[],[]⟩
def F0 : T8 CFn := (.node noFn ⟨(.node noFn ⟨(.node noFn ⟨.nil,(.node c64 ⟨.nil,.nil,.nil,.nil,.nil,.nil,.nil,.nil⟩),(.node c128 ⟨.nil,.nil,.nil,.nil,.nil,.nil,.nil,.nil⟩),(.node c192 ⟨.nil,.nil,.nil,.nil,.nil,.nil,.nil,.nil⟩),(.node c256 ⟨.nil,.nil,.nil,.nil,.nil,.nil,.nil,.nil⟩),.nil,(.node c384 ⟨.nil,.nil,.nil,.nil,.nil,.nil,.nil,.nil⟩),.nil⟩),(.node c8 ⟨.nil,(.node c72 ⟨.nil,.nil,.nil,.nil,.nil,.nil,.nil,.nil⟩),(.node c136 ⟨.nil,.nil,.nil,.nil,.nil,.nil,.nil,.nil⟩),(.node c200 ⟨.nil,.nil,.nil,.nil,.nil,.nil,.nil,.nil⟩),(.node c264 ⟨.nil,.nil,.nil,.nil,.nil,.nil,.nil,.nil⟩),(.node c328 ⟨.nil,.nil,.nil,.nil,.nil,.nil,.nil,.nil⟩),(.node c392 ⟨.nil,.nil,.nil,.nil,.nil,.nil,.nil,.nil⟩),.nil⟩),(.node c16 ⟨.nil,.nil,(.node c144 ⟨.nil,.nil,.nil,.nil,.nil,.nil,.nil,.nil⟩),(.node c208 ⟨.nil,.nil,.nil,.nil,.nil,.nil,.nil,.nil⟩),.nil,.nil,.nil,.nil⟩),(.node c24 ⟨.nil,(.node c88 ⟨.nil,.nil,.nil,.nil,.nil,.nil,.nil,.nil⟩),(.node c152 ⟨.nil,.nil,.nil,.nil,.nil,.nil,.nil,.nil⟩),(.node c216 ⟨.nil,.nil,.nil,.nil,.nil,.nil,.nil,.nil⟩),(.node c280 ⟨.nil,.nil,.nil,.nil,.nil,.nil,.nil,.nil⟩),(.node c344 ⟨.nil,.nil,.nil,.nil,.nil,.nil,.nil,.nil⟩),(.node c408 ⟨.nil,.nil,.nil,.nil,.nil,.nil,.nil,.nil⟩),.nil⟩),(.node c32 ⟨.nil,(.node c96 ⟨.nil,.nil,.nil,.nil,.nil,.nil,.nil,.nil⟩),.nil,(.node c224 ⟨.nil,.nil,.nil,.nil,.nil,.nil,.nil,.nil⟩),(.node c288 ⟨.nil,.nil,.nil,.nil,.nil,.nil,.nil,.nil⟩),.nil,.nil,.nil⟩),(.node noFn ⟨.nil,(.node c104 ⟨.nil,.nil,.nil,.nil,.nil,.nil,.nil,.nil⟩),(.node c168 ⟨.nil,.nil,.nil,.nil,.nil,.nil,.nil,.nil⟩),(.node c232 ⟨.nil,.nil,.nil,.nil,.nil,.nil,.nil,.nil⟩),(.node c296 ⟨.nil,.nil,.nil,.nil,.nil,.nil,.nil,.nil⟩),(.node c360 ⟨.nil,.nil,.nil,.nil,.nil,.nil,.nil,.nil⟩),.nil,.nil⟩),(.node c48 ⟨.nil,(.node c112 ⟨.nil,.nil,.nil,.nil,.nil,.nil,.nil,.nil⟩),(.node c176 ⟨.nil,.nil,.nil,.nil,.nil,.nil,.nil,.nil⟩),(.node c240 ⟨.nil,.nil,.nil,.nil,.nil,.nil,.nil,.nil⟩),(.node c304 ⟨.nil,.nil,.nil,.nil,.nil,.nil,.nil,.nil⟩),(.node c368 ⟨.nil,.nil,.nil,.nil,.nil,.nil,.nil,.nil⟩),.nil,.nil⟩),(.node c56 ⟨.nil,.nil,(.node c184 ⟨.nil,.nil,.nil,.nil,.nil,.nil,.nil,.nil⟩),(.node c248 ⟨.nil,.nil,.nil,.nil,.nil,.nil,.nil,.nil⟩),(.node c312 ⟨.nil,.nil,.nil,.nil,.nil,.nil,.nil,.nil⟩),(.node c376 ⟨.nil,.nil,.nil,.nil,.nil,.nil,.nil,.nil⟩),.nil,.nil⟩)⟩),(.node noFn ⟨(.node noFn ⟨.nil,(.node c65 ⟨.nil,.nil,.nil,.nil,.nil,.nil,.nil,.nil⟩),(.node c129 ⟨.nil,.nil,.nil,.nil,.nil,.nil,.nil,.nil⟩),(.node c193 ⟨.nil,.nil,.nil,.nil,.nil,.nil,.nil,.nil⟩),(.node c257 ⟨.nil,.nil,.nil,.nil,.nil,.nil,.nil,.nil⟩),.nil,(.node c385 ⟨.nil,.nil,.nil,.nil,.nil,.nil,.nil,.nil⟩),.nil⟩),(.node c9 ⟨.nil,(.node c73 ⟨.nil,.nil,.nil,.nil,.nil,.nil,.nil,.nil⟩),(.node c137 ⟨.nil,.nil,.nil,.nil,.nil,.nil,.nil,.nil⟩),(.node c201 ⟨.nil,.nil,.nil,.nil,.nil,.nil,.nil,.nil⟩),(.node c265 ⟨.nil,.nil,.nil,.nil,.nil,.nil,.nil,.nil⟩),(.node c329 ⟨.nil,.nil,.nil,.nil,.nil,.nil,.nil,.nil⟩),(.node c393 ⟨.nil,.nil,.nil,.nil,.nil,.nil,.nil,.nil⟩),.nil⟩),(.node c17 ⟨.nil,.nil,(.node c145 ⟨.nil,.nil,.nil,.nil,.nil,.nil,.nil,.nil⟩),(.node c209 ⟨.nil,.nil,.nil,.nil,.nil,.nil,.nil,.nil⟩),.nil,(.node c337 ⟨.nil,.nil,.nil,.nil,.nil,.nil,.nil,.nil⟩),.nil,.nil⟩),(.node c25 ⟨.nil,(.node c89 ⟨.nil,.nil,.nil,.nil,.nil,.nil,.nil,.nil⟩),.nil,(.node c217 ⟨.nil,.nil,.nil,.nil,.nil,.nil,.nil,.nil⟩),(.node c281 ⟨.nil,.nil,.nil,.nil,.nil,.nil,.nil,.nil⟩),(.node c345 ⟨.nil,.nil,.nil,.nil,.nil,.nil,.nil,.nil⟩),.nil,.nil⟩),(.node c33 ⟨.nil,(.node c97 ⟨.nil,.nil,.nil,.nil,.nil,.nil,.nil,.nil⟩),(.node c161 ⟨.nil,.nil,.nil,.nil,.nil,.nil,.nil,.nil⟩),(.node c225 ⟨.nil,.nil,.nil,.nil,.nil,.nil,.nil,.nil⟩),(.node c289 ⟨.nil,.nil,.nil,.nil,.nil,.nil,.nil,.nil⟩),.nil,.nil,.nil⟩),(.node c41 ⟨.nil,(.node c105 ⟨.nil,.nil,.nil,.nil,.nil,.nil,.nil,.nil⟩),(.node c169 ⟨.nil,.nil,.nil,.nil,.nil,.nil,.nil,.nil⟩),(.node c233 ⟨.nil,.nil,.nil,.nil,.nil,.nil,.nil,.nil⟩),(.node c297 ⟨.nil,.nil,.nil,.nil,.nil,.nil,.nil,.nil⟩),(.node c361 ⟨.nil,.nil,.nil,.nil,.nil,.nil,.nil,.nil⟩),.nil,.nil⟩),(.node c49 ⟨.nil,(.node c113 ⟨.nil,.nil,.nil,.nil,.nil,.nil,.nil,.nil⟩),(.node c177 ⟨.nil,.nil,.nil,.nil,.nil,.nil,.nil,.nil⟩),(.node c241 ⟨.nil,.nil,.nil,.nil,.nil,.nil,.nil,.nil⟩),(.node c305 ⟨.nil,.nil,.nil,.nil,.nil,.nil,.nil,.nil⟩),.nil,.nil,.nil⟩),(.node c57 ⟨.nil,.nil,(.node c185 ⟨.nil,.nil,.nil,.nil,.nil,.nil,.nil,.nil⟩),.nil,(.node c313 ⟨.nil,.nil,.nil,.nil,.nil,.nil,.nil,.nil⟩),(.node c377 ⟨.nil,.nil,.nil,.nil,.nil,.nil,.nil,.nil⟩),.nil,.nil⟩)⟩),(.node noFn ⟨(.node noFn ⟨.nil,(.node c66 ⟨.nil,.nil,.nil,.nil,.nil,.nil,.nil,.nil⟩),(.node c130 ⟨.nil,.nil,.nil,.nil,.nil,.nil,.nil,.nil⟩),(.node c194 ⟨.nil,.nil,.nil,.nil,.nil,.nil,.nil,.nil⟩),(.node c258 ⟨.nil,.nil,.nil,.nil,.nil,.nil,.nil,.nil⟩),.nil,.nil,.nil⟩),(.node c10 ⟨.nil,(.node c74 ⟨.nil,.nil,.nil,.nil,.nil,.nil,.nil,.nil⟩),(.node c138 ⟨.nil,.nil,.nil,.nil,.nil,.nil,.nil,.nil⟩),.nil,(.node c266 ⟨.nil,.nil,.nil,.nil,.nil,.nil,.nil,.nil⟩),(.node c330 ⟨.nil,.nil,.nil,.nil,.nil,.nil,.nil,.nil⟩),(.node c394 ⟨.nil,.nil,.nil,.nil,.nil,.nil,.nil,.nil⟩),.nil⟩),(.node noFn ⟨.nil,(.node c82 ⟨.nil,.nil,.nil,.nil,.nil,.nil,.nil,.nil⟩),(.node c146 ⟨.nil,.nil,.nil,.nil,.nil,.nil,.nil,.nil⟩),(.node c210 ⟨.nil,.nil,.nil,.nil,.nil,.nil,.nil,.nil⟩),.nil,(.node c338 ⟨.nil,.nil,.nil,.nil,.nil,.nil,.nil,.nil⟩),(.node c402 ⟨.nil,.nil,.nil,.nil,.nil,.nil,.nil,.nil⟩),.nil⟩),(.node c26 ⟨.nil,(.node c90 ⟨.nil,.nil,.nil,.nil,.nil,.nil,.nil,.nil⟩),.nil,(.node c218 ⟨.nil,.nil,.nil,.nil,.nil,.nil,.nil,.nil⟩),(.node c282 ⟨.nil,.nil,.nil,.nil,.nil,.nil,.nil,.nil⟩),(.node c346 ⟨.nil,.nil,.nil,.nil,.nil,.nil,.nil,.nil⟩),.nil,.nil⟩),(.node c34 ⟨.nil,(.node c98 ⟨.nil,.nil,.nil,.nil,.nil,.nil,.nil,.nil⟩),(.node c162 ⟨.nil,.nil,.nil,.nil,.nil,.nil,.nil,.nil⟩),(.node c226 ⟨.nil,.nil,.nil,.nil,.nil,.nil,.nil,.nil⟩),(.node c290 ⟨.nil,.nil,.nil,.nil,.nil,.nil,.nil,.nil⟩),.nil,.nil,.nil⟩),(.node noFn ⟨.nil,(.node c106 ⟨.nil,.nil,.nil,.nil,.nil,.nil,.nil,.nil⟩),(.node c170 ⟨.nil,.nil,.nil,.nil,.nil,.nil,.nil,.nil⟩),(.node c234 ⟨.nil,.nil,.nil,.nil,.nil,.nil,.nil,.nil⟩),(.node c298 ⟨.nil,.nil,.nil,.nil,.nil,.nil,.nil,.nil⟩),(.node c362 ⟨.nil,.nil,.nil,.nil,.nil,.nil,.nil,.nil⟩),.nil,.nil⟩),(.node c50 ⟨.nil,(.node c114 ⟨.nil,.nil,.nil,.nil,.nil,.nil,.nil,.nil⟩),(.node c178 ⟨.nil,.nil,.nil,.nil,.nil,.nil,.nil,.nil⟩),(.node c242 ⟨.nil,.nil,.nil,.nil,.nil,.nil,.nil,.nil⟩),(.node c306 ⟨.nil,.nil,.nil,.nil,.nil,.nil,.nil,.nil⟩),.nil,.nil,.nil⟩),(.node c58 ⟨.nil,(.node c122 ⟨.nil,.nil,.nil,.nil,.nil,.nil,.nil,.nil⟩),(.node c186 ⟨.nil,.nil,.nil,.nil,.nil,.nil,.nil,.nil⟩),(.node c250 ⟨.nil,.nil,.nil,.nil,.nil,.nil,.nil,.nil⟩),(.node c314 ⟨.nil,.nil,.nil,.nil,.nil,.nil,.nil,.nil⟩),.nil,.nil,.nil⟩)⟩),(.node c3 ⟨(.node noFn ⟨.nil,(.node c67 ⟨.nil,.nil,.nil,.nil,.nil,.nil,.nil,.nil⟩),(.node c131 ⟨.nil,.nil,.nil,.nil,.nil,.nil,.nil,.nil⟩),(.node c195 ⟨.nil,.nil,.nil,.nil,.nil,.nil,.nil,.nil⟩),(.node c259 ⟨.nil,.nil,.nil,.nil,.nil,.nil,.nil,.nil⟩),.nil,(.node c387 ⟨.nil,.nil,.nil,.nil,.nil,.nil,.nil,.nil⟩),.nil⟩),(.node c11 ⟨.nil,(.node c75 ⟨.nil,.nil,.nil,.nil,.nil,.nil,.nil,.nil⟩),(.node c139 ⟨.nil,.nil,.nil,.nil,.nil,.nil,.nil,.nil⟩),(.node c203 ⟨.nil,.nil,.nil,.nil,.nil,.nil,.nil,.nil⟩),(.node c267 ⟨.nil,.nil,.nil,.nil,.nil,.nil,.nil,.nil⟩),(.node c331 ⟨.nil,.nil,.nil,.nil,.nil,.nil,.nil,.nil⟩),(.node c395 ⟨.nil,.nil,.nil,.nil,.nil,.nil,.nil,.nil⟩),.nil⟩),(.node noFn ⟨.nil,(.node c83 ⟨.nil,.nil,.nil,.nil,.nil,.nil,.nil,.nil⟩),(.node c147 ⟨.nil,.nil,.nil,.nil,.nil,.nil,.nil,.nil⟩),(.node c211 ⟨.nil,.nil,.nil,.nil,.nil,.nil,.nil,.nil⟩),.nil,(.node c339 ⟨.nil,.nil,.nil,.nil,.nil,.nil,.nil,.nil⟩),.nil,.nil⟩),(.node c27 ⟨.nil,(.node c91 ⟨.nil,.nil,.nil,.nil,.nil,.nil,.nil,.nil⟩),(.node c155 ⟨.nil,.nil,.nil,.nil,.nil,.nil,.nil,.nil⟩),(.node c219 ⟨.nil,.nil,.nil,.nil,.nil,.nil,.nil,.nil⟩),(.node c283 ⟨.nil,.nil,.nil,.nil,.nil,.nil,.nil,.nil⟩),.nil,.nil,.nil⟩),(.node c35 ⟨.nil,.nil,(.node c163 ⟨.nil,.nil,.nil,.nil,.nil,.nil,.nil,.nil⟩),(.node c227 ⟨.nil,.nil,.nil,.nil,.nil,.nil,.nil,.nil⟩),(.node c291 ⟨.nil,.nil,.nil,.nil,.nil,.nil,.nil,.nil⟩),.nil,.nil,.nil⟩),(.node noFn ⟨.nil,(.node c107 ⟨.nil,.nil,.nil,.nil,.nil,.nil,.nil,.nil⟩),(.node c171 ⟨.nil,.nil,.nil,.nil,.nil,.nil,.nil,.nil⟩),(.node c235 ⟨.nil,.nil,.nil,.nil,.nil,.nil,.nil,.nil⟩),(.node c299 ⟨.nil,.nil,.nil,.nil,.nil,.nil,.nil,.nil⟩),(.node c363 ⟨.nil,.nil,.nil,.nil,.nil,.nil,.nil,.nil⟩),.nil,.nil⟩),(.node c51 ⟨.nil,(.node c115 ⟨.nil,.nil,.nil,.nil,.nil,.nil,.nil,.nil⟩),(.node c179 ⟨.nil,.nil,.nil,.nil,.nil,.nil,.nil,.nil⟩),.nil,(.node c307 ⟨.nil,.nil,.nil,.nil,.nil,.nil,.nil,.nil⟩),(.node c371 ⟨.nil,.nil,.nil,.nil,.nil,.nil,.nil,.nil⟩),.nil,.nil⟩),(.node noFn ⟨.nil,(.node c123 ⟨.nil,.nil,.nil,.nil,.nil,.nil,.nil,.nil⟩),(.node c187 ⟨.nil,.nil,.nil,.nil,.nil,.nil,.nil,.nil⟩),(.node c251 ⟨.nil,.nil,.nil,.nil,.nil,.nil,.nil,.nil⟩),(.node c315 ⟨.nil,.nil,.nil,.nil,.nil,.nil,.nil,.nil⟩),.nil,.nil,.nil⟩)⟩),(.node noFn ⟨(.node noFn ⟨.nil,(.node c68 ⟨.nil,.nil,.nil,.nil,.nil,.nil,.nil,.nil⟩),(.node c132 ⟨.nil,.nil,.nil,.nil,.nil,.nil,.nil,.nil⟩),(.node c196 ⟨.nil,.nil,.nil,.nil,.nil,.nil,.nil,.nil⟩),(.node c260 ⟨.nil,.nil,.nil,.nil,.nil,.nil,.nil,.nil⟩),.nil,(.node c388 ⟨.nil,.nil,.nil,.nil,.nil,.nil,.nil,.nil⟩),.nil⟩),(.node c12 ⟨.nil,(.node c76 ⟨.nil,.nil,.nil,.nil,.nil,.nil,.nil,.nil⟩),(.node c140 ⟨.nil,.nil,.nil,.nil,.nil,.nil,.nil,.nil⟩),(.node c204 ⟨.nil,.nil,.nil,.nil,.nil,.nil,.nil,.nil⟩),(.node c268 ⟨.nil,.nil,.nil,.nil,.nil,.nil,.nil,.nil⟩),.nil,(.node c396 ⟨.nil,.nil,.nil,.nil,.nil,.nil,.nil,.nil⟩),.nil⟩),(.node noFn ⟨.nil,(.node c84 ⟨.nil,.nil,.nil,.nil,.nil,.nil,.nil,.nil⟩),(.node c148 ⟨.nil,.nil,.nil,.nil,.nil,.nil,.nil,.nil⟩),.nil,(.node c276 ⟨.nil,.nil,.nil,.nil,.nil,.nil,.nil,.nil⟩),(.node c340 ⟨.nil,.nil,.nil,.nil,.nil,.nil,.nil,.nil⟩),.nil,.nil⟩),(.node c28 ⟨.nil,(.node c92 ⟨.nil,.nil,.nil,.nil,.nil,.nil,.nil,.nil⟩),.nil,(.node c220 ⟨.nil,.nil,.nil,.nil,.nil,.nil,.nil,.nil⟩),(.node c284 ⟨.nil,.nil,.nil,.nil,.nil,.nil,.nil,.nil⟩),.nil,.nil,.nil⟩),(.node c36 ⟨.nil,(.node c100 ⟨.nil,.nil,.nil,.nil,.nil,.nil,.nil,.nil⟩),(.node c164 ⟨.nil,.nil,.nil,.nil,.nil,.nil,.nil,.nil⟩),(.node c228 ⟨.nil,.nil,.nil,.nil,.nil,.nil,.nil,.nil⟩),(.node c292 ⟨.nil,.nil,.nil,.nil,.nil,.nil,.nil,.nil⟩),.nil,.nil,.nil⟩),(.node c44 ⟨.nil,(.node c108 ⟨.nil,.nil,.nil,.nil,.nil,.nil,.nil,.nil⟩),(.node c172 ⟨.nil,.nil,.nil,.nil,.nil,.nil,.nil,.nil⟩),(.node c236 ⟨.nil,.nil,.nil,.nil,.nil,.nil,.nil,.nil⟩),(.node c300 ⟨.nil,.nil,.nil,.nil,.nil,.nil,.nil,.nil⟩),(.node c364 ⟨.nil,.nil,.nil,.nil,.nil,.nil,.nil,.nil⟩),.nil,.nil⟩),(.node c52 ⟨.nil,(.node c116 ⟨.nil,.nil,.nil,.nil,.nil,.nil,.nil,.nil⟩),(.node c180 ⟨.nil,.nil,.nil,.nil,.nil,.nil,.nil,.nil⟩),(.node c244 ⟨.nil,.nil,.nil,.nil,.nil,.nil,.nil,.nil⟩),(.node c308 ⟨.nil,.nil,.nil,.nil,.nil,.nil,.nil,.nil⟩),.nil,.nil,.nil⟩),(.node noFn ⟨.nil,.nil,(.node c188 ⟨.nil,.nil,.nil,.nil,.nil,.nil,.nil,.nil⟩),(.node c252 ⟨.nil,.nil,.nil,.nil,.nil,.nil,.nil,.nil⟩),(.node c316 ⟨.nil,.nil,.nil,.nil,.nil,.nil,.nil,.nil⟩),.nil,.nil,.nil⟩)⟩),(.node c5 ⟨(.node noFn ⟨.nil,(.node c69 ⟨.nil,.nil,.nil,.nil,.nil,.nil,.nil,.nil⟩),(.node c133 ⟨.nil,.nil,.nil,.nil,.nil,.nil,.nil,.nil⟩),(.node c197 ⟨.nil,.nil,.nil,.nil,.nil,.nil,.nil,.nil⟩),(.node c261 ⟨.nil,.nil,.nil,.nil,.nil,.nil,.nil,.nil⟩),.nil,(.node c389 ⟨.nil,.nil,.nil,.nil,.nil,.nil,.nil,.nil⟩),.nil⟩),(.node c13 ⟨.nil,(.node c77 ⟨.nil,.nil,.nil,.nil,.nil,.nil,.nil,.nil⟩),(.node c141 ⟨.nil,.nil,.nil,.nil,.nil,.nil,.nil,.nil⟩),(.node c205 ⟨.nil,.nil,.nil,.nil,.nil,.nil,.nil,.nil⟩),(.node c269 ⟨.nil,.nil,.nil,.nil,.nil,.nil,.nil,.nil⟩),.nil,.nil,.nil⟩),(.node noFn ⟨.nil,.nil,(.node c149 ⟨.nil,.nil,.nil,.nil,.nil,.nil,.nil,.nil⟩),.nil,.nil,(.node c341 ⟨.nil,.nil,.nil,.nil,.nil,.nil,.nil,.nil⟩),(.node c405 ⟨.nil,.nil,.nil,.nil,.nil,.nil,.nil,.nil⟩),.nil⟩),(.node c29 ⟨.nil,(.node c93 ⟨.nil,.nil,.nil,.nil,.nil,.nil,.nil,.nil⟩),(.node c157 ⟨.nil,.nil,.nil,.nil,.nil,.nil,.nil,.nil⟩),(.node c221 ⟨.nil,.nil,.nil,.nil,.nil,.nil,.nil,.nil⟩),(.node c285 ⟨.nil,.nil,.nil,.nil,.nil,.nil,.nil,.nil⟩),.nil,.nil,.nil⟩),(.node noFn ⟨.nil,(.node c101 ⟨.nil,.nil,.nil,.nil,.nil,.nil,.nil,.nil⟩),(.node c165 ⟨.nil,.nil,.nil,.nil,.nil,.nil,.nil,.nil⟩),.nil,(.node c293 ⟨.nil,.nil,.nil,.nil,.nil,.nil,.nil,.nil⟩),(.node c357 ⟨.nil,.nil,.nil,.nil,.nil,.nil,.nil,.nil⟩),.nil,.nil⟩),(.node c45 ⟨.nil,(.node c109 ⟨.nil,.nil,.nil,.nil,.nil,.nil,.nil,.nil⟩),(.node c173 ⟨.nil,.nil,.nil,.nil,.nil,.nil,.nil,.nil⟩),(.node c237 ⟨.nil,.nil,.nil,.nil,.nil,.nil,.nil,.nil⟩),(.node c301 ⟨.nil,.nil,.nil,.nil,.nil,.nil,.nil,.nil⟩),(.node c365 ⟨.nil,.nil,.nil,.nil,.nil,.nil,.nil,.nil⟩),.nil,.nil⟩),(.node c53 ⟨.nil,(.node c117 ⟨.nil,.nil,.nil,.nil,.nil,.nil,.nil,.nil⟩),(.node c181 ⟨.nil,.nil,.nil,.nil,.nil,.nil,.nil,.nil⟩),(.node c245 ⟨.nil,.nil,.nil,.nil,.nil,.nil,.nil,.nil⟩),(.node c309 ⟨.nil,.nil,.nil,.nil,.nil,.nil,.nil,.nil⟩),(.node c373 ⟨.nil,.nil,.nil,.nil,.nil,.nil,.nil,.nil⟩),.nil,.nil⟩),(.node c61 ⟨.nil,.nil,(.node c189 ⟨.nil,.nil,.nil,.nil,.nil,.nil,.nil,.nil⟩),(.node c253 ⟨.nil,.nil,.nil,.nil,.nil,.nil,.nil,.nil⟩),.nil,.nil,.nil,.nil⟩)⟩),(.node c6 ⟨(.node noFn ⟨.nil,(.node c70 ⟨.nil,.nil,.nil,.nil,.nil,.nil,.nil,.nil⟩),(.node c134 ⟨.nil,.nil,.nil,.nil,.nil,.nil,.nil,.nil⟩),(.node c198 ⟨.nil,.nil,.nil,.nil,.nil,.nil,.nil,.nil⟩),.nil,(.node c326 ⟨.nil,.nil,.nil,.nil,.nil,.nil,.nil,.nil⟩),(.node c390 ⟨.nil,.nil,.nil,.nil,.nil,.nil,.nil,.nil⟩),.nil⟩),(.node c14 ⟨.nil,(.node c78 ⟨.nil,.nil,.nil,.nil,.nil,.nil,.nil,.nil⟩),(.node c142 ⟨.nil,.nil,.nil,.nil,.nil,.nil,.nil,.nil⟩),(.node c206 ⟨.nil,.nil,.nil,.nil,.nil,.nil,.nil,.nil⟩),(.node c270 ⟨.nil,.nil,.nil,.nil,.nil,.nil,.nil,.nil⟩),.nil,.nil,.nil⟩),(.node noFn ⟨.nil,.nil,(.node c150 ⟨.nil,.nil,.nil,.nil,.nil,.nil,.nil,.nil⟩),(.node c214 ⟨.nil,.nil,.nil,.nil,.nil,.nil,.nil,.nil⟩),.nil,(.node c342 ⟨.nil,.nil,.nil,.nil,.nil,.nil,.nil,.nil⟩),.nil,.nil⟩),(.node c30 ⟨.nil,(.node c94 ⟨.nil,.nil,.nil,.nil,.nil,.nil,.nil,.nil⟩),(.node c158 ⟨.nil,.nil,.nil,.nil,.nil,.nil,.nil,.nil⟩),(.node c222 ⟨.nil,.nil,.nil,.nil,.nil,.nil,.nil,.nil⟩),(.node c286 ⟨.nil,.nil,.nil,.nil,.nil,.nil,.nil,.nil⟩),.nil,.nil,.nil⟩),(.node c38 ⟨.nil,(.node c102 ⟨.nil,.nil,.nil,.nil,.nil,.nil,.nil,.nil⟩),(.node c166 ⟨.nil,.nil,.nil,.nil,.nil,.nil,.nil,.nil⟩),.nil,(.node c294 ⟨.nil,.nil,.nil,.nil,.nil,.nil,.nil,.nil⟩),(.node c358 ⟨.nil,.nil,.nil,.nil,.nil,.nil,.nil,.nil⟩),.nil,.nil⟩),(.node c46 ⟨.nil,(.node c110 ⟨.nil,.nil,.nil,.nil,.nil,.nil,.nil,.nil⟩),(.node c174 ⟨.nil,.nil,.nil,.nil,.nil,.nil,.nil,.nil⟩),(.node c238 ⟨.nil,.nil,.nil,.nil,.nil,.nil,.nil,.nil⟩),(.node c302 ⟨.nil,.nil,.nil,.nil,.nil,.nil,.nil,.nil⟩),(.node c366 ⟨.nil,.nil,.nil,.nil,.nil,.nil,.nil,.nil⟩),.nil,.nil⟩),(.node c54 ⟨.nil,(.node c118 ⟨.nil,.nil,.nil,.nil,.nil,.nil,.nil,.nil⟩),(.node c182 ⟨.nil,.nil,.nil,.nil,.nil,.nil,.nil,.nil⟩),(.node c246 ⟨.nil,.nil,.nil,.nil,.nil,.nil,.nil,.nil⟩),(.node c310 ⟨.nil,.nil,.nil,.nil,.nil,.nil,.nil,.nil⟩),(.node c374 ⟨.nil,.nil,.nil,.nil,.nil,.nil,.nil,.nil⟩),.nil,.nil⟩),(.node noFn ⟨.nil,(.node c126 ⟨.nil,.nil,.nil,.nil,.nil,.nil,.nil,.nil⟩),(.node c190 ⟨.nil,.nil,.nil,.nil,.nil,.nil,.nil,.nil⟩),(.node c254 ⟨.nil,.nil,.nil,.nil,.nil,.nil,.nil,.nil⟩),(.node c318 ⟨.nil,.nil,.nil,.nil,.nil,.nil,.nil,.nil⟩),.nil,.nil,.nil⟩)⟩),(.node c7 ⟨(.node noFn ⟨.nil,(.node c71 ⟨.nil,.nil,.nil,.nil,.nil,.nil,.nil,.nil⟩),(.node c135 ⟨.nil,.nil,.nil,.nil,.nil,.nil,.nil,.nil⟩),(.node c199 ⟨.nil,.nil,.nil,.nil,.nil,.nil,.nil,.nil⟩),(.node c263 ⟨.nil,.nil,.nil,.nil,.nil,.nil,.nil,.nil⟩),(.node c327 ⟨.nil,.nil,.nil,.nil,.nil,.nil,.nil,.nil⟩),(.node c391 ⟨.nil,.nil,.nil,.nil,.nil,.nil,.nil,.nil⟩),.nil⟩),(.node c15 ⟨.nil,(.node c79 ⟨.nil,.nil,.nil,.nil,.nil,.nil,.nil,.nil⟩),(.node c143 ⟨.nil,.nil,.nil,.nil,.nil,.nil,.nil,.nil⟩),(.node c207 ⟨.nil,.nil,.nil,.nil,.nil,.nil,.nil,.nil⟩),(.node c271 ⟨.nil,.nil,.nil,.nil,.nil,.nil,.nil,.nil⟩),.nil,.nil,.nil⟩),(.node noFn ⟨.nil,.nil,(.node c151 ⟨.nil,.nil,.nil,.nil,.nil,.nil,.nil,.nil⟩),(.node c215 ⟨.nil,.nil,.nil,.nil,.nil,.nil,.nil,.nil⟩),(.node c279 ⟨.nil,.nil,.nil,.nil,.nil,.nil,.nil,.nil⟩),(.node c343 ⟨.nil,.nil,.nil,.nil,.nil,.nil,.nil,.nil⟩),.nil,.nil⟩),(.node noFn ⟨.nil,(.node c95 ⟨.nil,.nil,.nil,.nil,.nil,.nil,.nil,.nil⟩),(.node c159 ⟨.nil,.nil,.nil,.nil,.nil,.nil,.nil,.nil⟩),(.node c223 ⟨.nil,.nil,.nil,.nil,.nil,.nil,.nil,.nil⟩),(.node c287 ⟨.nil,.nil,.nil,.nil,.nil,.nil,.nil,.nil⟩),.nil,.nil,.nil⟩),(.node c39 ⟨.nil,(.node c103 ⟨.nil,.nil,.nil,.nil,.nil,.nil,.nil,.nil⟩),(.node c167 ⟨.nil,.nil,.nil,.nil,.nil,.nil,.nil,.nil⟩),(.node c231 ⟨.nil,.nil,.nil,.nil,.nil,.nil,.nil,.nil⟩),(.node c295 ⟨.nil,.nil,.nil,.nil,.nil,.nil,.nil,.nil⟩),.nil,.nil,.nil⟩),(.node c47 ⟨.nil,(.node c111 ⟨.nil,.nil,.nil,.nil,.nil,.nil,.nil,.nil⟩),(.node c175 ⟨.nil,.nil,.nil,.nil,.nil,.nil,.nil,.nil⟩),(.node c239 ⟨.nil,.nil,.nil,.nil,.nil,.nil,.nil,.nil⟩),(.node c303 ⟨.nil,.nil,.nil,.nil,.nil,.nil,.nil,.nil⟩),(.node c367 ⟨.nil,.nil,.nil,.nil,.nil,.nil,.nil,.nil⟩),.nil,.nil⟩),(.node noFn ⟨.nil,(.node c119 ⟨.nil,.nil,.nil,.nil,.nil,.nil,.nil,.nil⟩),(.node c183 ⟨.nil,.nil,.nil,.nil,.nil,.nil,.nil,.nil⟩),(.node c247 ⟨.nil,.nil,.nil,.nil,.nil,.nil,.nil,.nil⟩),(.node c311 ⟨.nil,.nil,.nil,.nil,.nil,.nil,.nil,.nil⟩),(.node c375 ⟨.nil,.nil,.nil,.nil,.nil,.nil,.nil,.nil⟩),.nil,.nil⟩),(.node c63 ⟨.nil,(.node c127 ⟨.nil,.nil,.nil,.nil,.nil,.nil,.nil,.nil⟩),(.node c191 ⟨.nil,.nil,.nil,.nil,.nil,.nil,.nil,.nil⟩),(.node c255 ⟨.nil,.nil,.nil,.nil,.nil,.nil,.nil,.nil⟩),.nil,(.node c383 ⟨.nil,.nil,.nil,.nil,.nil,.nil,.nil,.nil⟩),.nil,.nil⟩)⟩)⟩)
def tabL : List AVal := [.int .u8 0,.int .u8 1,.int .u8 56,.int .u8 2,.int .u8 57,.int .u8 49,.int .u8 28,.int .u8 3,.int .u8 61,.int .u8 58,.int .u8 42,.int .u8 50,.int .u8 38,.int .u8 29,.int .u8 17,.int .u8 4,.int .u8 62,.int .u8 47,.int .u8 59,.int .u8 36,.int .u8 45,.int .u8 43,.int .u8 51,.int .u8 22,.int .u8 53,.int .u8 39,.int .u8 33,.int .u8 30,.int .u8 24,.int .u8 18,.int .u8 12,.int .u8 5,.int .u8 63,.int .u8 55,.int .u8 48,.int .u8 27,.int .u8 60,.int .u8 41,.int .u8 37,.int .u8 16,.int .u8 46,.int .u8 35,.int .u8 44,.int .u8 21,.int .u8 52,.int .u8 32,.int .u8 23,.int .u8 11,.int .u8 54,.int .u8 26,.int .u8 40,.int .u8 15,.int .u8 34,.int .u8 20,.int .u8 31,.int .u8 10,.int .u8 25,.int .u8 14,.int .u8 19,.int .u8 9,.int .u8 13,.int .u8 8,.int .u8 7,.int .u8 6]
def H0 : AH := ⟨q2, .node (.ro 64 1 tabL .nil) nil8⟩
def HE : AH := ⟨q2, .nil⟩
end Go.Ex.K
