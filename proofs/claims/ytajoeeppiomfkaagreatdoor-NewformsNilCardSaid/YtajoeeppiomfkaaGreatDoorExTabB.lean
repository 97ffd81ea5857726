/- The functions of the program, compiled into the executor's language, a part of them. Conditions: none. -/
import Derived.Test.YtajoeeppiomfkaaGreatDoorExTabA
set_option maxRecDepth 100000
set_option linter.unusedVariables false
namespace Go.Ex.K
def c173 : CFn := ⟨[some q4,some q24,some q64,some q310],(.seq (.reg (.gen ⟨(.slot q0),.box (.t q310),none⟩
  (.sm q34 (.k .snil)
  .fin)))
 (.seq (.reg (.pca q452 [(.t q4)]
  (.gen ⟨.push,.mksl 2 32 [(.bool false),.snil] (.l x0) (.l x0),none⟩
  (.sm q6 (.l x0)
  .fin))))
 (.seq (.seq (.reg (.gen ⟨(.slot q04),.len (.t q6),none⟩
  (.sm q3 (.k (.int .i64 0))
  .fin)))
 (.block 0 (.loop (.seq (.regc (.pb .lss (.t q3) (.t q04)
  .fin) (.l x0) .skip (.exit 0))
 (.seq (.block 1 (.seq (.reg (.sm q7 (.t q3)
  .fin))
 (.reg (.pca q211 [(.k (.int .i64 0))]
  (.pia 2 (.t q6) (.t q7)
  (.st 2 (.l x0) (.l x1)
  .fin))))))
 (.reg (.pb .add (.t q3) (.k (.int .i64 1))
  (.sm q3 (.l x0)
  .fin))))))))
 (.seq (.regd [(⟨(.slot q35),.move (.t q4),none⟩,⟨0,0,0⟩),
  (⟨(.slot q45),.nilc (.t q35),none⟩,⟨0,0,0⟩),
  (⟨(.slot q55),.faddr 2 (.t q45),none⟩,⟨0,0,0⟩),
  (⟨(.slot q65),.load false 1 (.t q55),none⟩,⟨1,0,0⟩),
  (⟨(.slot q75),.move (.t q64),none⟩,⟨0,0,0⟩),
  (⟨(.slot q06),.iaddr 3 (.t q65) (.t q75),none⟩,⟨0,0,0⟩),
  (⟨(.slot q16),.faddr 0 (.t q06),none⟩,⟨0,0,0⟩),
  (⟨(.slot q26),.load false 1 (.t q16),none⟩,⟨1,0,0⟩),
  (⟨(.slot q36),.move (.t q4),none⟩,⟨0,0,0⟩),
  (⟨(.slot q46),.nilc (.t q36),none⟩,⟨0,0,0⟩),
  (⟨(.slot q56),.faddr 2 (.t q46),none⟩,⟨0,0,0⟩),
  (⟨(.slot q66),.load false 1 (.t q56),none⟩,⟨1,0,0⟩),
  (⟨(.slot q76),.move (.t q64),none⟩,⟨0,0,0⟩),
  (⟨(.slot q07),.iaddr 3 (.t q66) (.t q76),none⟩,⟨0,0,0⟩),
  (⟨(.slot q17),.faddr 1 (.t q07),none⟩,⟨0,0,0⟩),
  (⟨(.slot q27),.load false 1 (.t q17),none⟩,⟨1,0,0⟩),
  (⟨(.slot q44),.move (.t q26),none⟩,⟨0,0,0⟩),
  (⟨(.slot q54),.move (.t q27),none⟩,⟨0,0,0⟩)])
 (.seq (.regd [(⟨(.slot q37),.move (.t q4),none⟩,⟨0,0,0⟩),
  (⟨(.slot q47),.faddr 0 (.t q0),none⟩,⟨0,0,0⟩),
  (⟨(.slot q57),.load false 1 (.t q47),none⟩,⟨1,0,0⟩),
  (⟨(.slot q67),.call q073 [(.t q37),(.t q57)],none⟩,⟨3,0,1⟩),
  (⟨(.slot q77),.move (.t q4),none⟩,⟨0,0,1⟩),
  (⟨(.slot q000),.faddr 1 (.t q0),none⟩,⟨0,0,1⟩),
  (⟨(.slot q100),.load false 1 (.t q000),none⟩,⟨1,0,1⟩),
  (⟨(.slot q200),.call q073 [(.t q77),(.t q100)],none⟩,⟨3,1,2⟩),
  (⟨(.slot q300),.move (.t q4),none⟩,⟨0,0,2⟩),
  (⟨(.slot q400),.faddr 2 (.t q0),none⟩,⟨0,0,2⟩),
  (⟨(.slot q500),.load false 1 (.t q400),none⟩,⟨1,0,2⟩),
  (⟨(.slot q600),.call q073 [(.t q300),(.t q500)],none⟩,⟨3,2,3⟩),
  (⟨(.slot q700),.move (.t q4),none⟩,⟨0,0,3⟩),
  (⟨(.slot q010),.faddr 3 (.t q0),none⟩,⟨0,0,3⟩),
  (⟨(.slot q110),.load false 1 (.t q010),none⟩,⟨1,0,3⟩),
  (⟨(.slot q210),.call q073 [(.t q700),(.t q110)],none⟩,⟨3,3,4⟩),
  (⟨(.slot q74),.move (.t q67),none⟩,⟨0,4,4⟩),
  (⟨(.slot q05),.move (.t q200),none⟩,⟨0,4,4⟩),
  (⟨(.slot q15),.move (.t q600),none⟩,⟨0,4,4⟩),
  (⟨(.slot q25),.move (.t q210),none⟩,⟨0,4,4⟩)])
 (.seq (.reg (.pb .mul (.t q44) (.t q74)
  (.pb .mul (.t q54) (.t q15)
  (.pb .add (.l x1) (.l x0)
  (.pb .mul (.t q44) (.t q05)
  (.pb .mul (.t q54) (.t q25)
  (.pb .add (.l x1) (.l x0)
  (.pca q752 [(.t q4),(.l x3),(.l x0)]
  (.gen ⟨(.slot q63),.box (.k (.agg [(.int .i64 0),(.int .i64 0)])),none⟩
  (.st 2 (.t q63) (.l x0)
  .fin))))))))))
 (.seq (.regc (.pfa 1 (.t q63)
  (.pld false 1 (.l x0)
  (.pb .eql (.l x0) (.k (.int .i64 0))
  .fin))) (.l x0) (.seq (.reg (.sm q34 (.t q6)
  .fin))
 .ret) .skip)
 (.seq (.reg (.pfa 1 (.t q63)
  (.pld false 1 (.l x0)
  (.pca q211 [(.l x0)]
  (.gen ⟨.push,.bsl 2 1 [(.bool false),.snil] [(0,(.l x0))],none⟩
  (.sm q1 (.l x0)
  .fin))))))
 (.seq (.seq (.reg (.sm q2 (.k (.int .i64 0))
  .fin))
 (.block 2 (.loop (.seq (.regc (.gen ⟨.push,.nilc (.t q4),none⟩
  (.pfa 1 (.l x0)
  (.pld false 1 (.l x0)
  (.pb .lss (.t q2) (.l x0)
  .fin)))) (.l x0) .skip (.exit 2))
 (.seq (.block 3 (.regc (.pb .lss (.t q2) (.t q24)
  .fin) (.l x0) (.regd [(⟨(.slot q10),.move (.t q1),none⟩,⟨0,0,2⟩),
  (⟨(.slot q20),.faddr 0 (.t q0),none⟩,⟨0,0,0⟩),
  (⟨(.slot q30),.load false 1 (.t q20),none⟩,⟨1,0,0⟩),
  (⟨(.slot q40),.call q211 [(.t q30)],none⟩,⟨3,0,1⟩),
  (⟨(.slot q50),.faddr 1 (.t q0),none⟩,⟨0,0,1⟩),
  (⟨(.slot q60),.load false 1 (.t q50),none⟩,⟨1,0,1⟩),
  (⟨(.slot q70),.call q211 [(.t q60)],none⟩,⟨3,1,2⟩),
  (⟨(.slot q01),.call q173 [(.t q10),(.t q40),(.t q70)],none⟩,⟨3,2,3⟩),
  (⟨(.slot q1),.move (.t q01),none⟩,⟨0,3,3⟩)]) (.regd [(⟨(.slot q11),.move (.t q1),none⟩,⟨0,0,2⟩),
  (⟨(.slot q21),.faddr 2 (.t q0),none⟩,⟨0,0,0⟩),
  (⟨(.slot q31),.load false 1 (.t q21),none⟩,⟨1,0,0⟩),
  (⟨(.slot q41),.call q211 [(.t q31)],none⟩,⟨3,0,1⟩),
  (⟨(.slot q51),.faddr 3 (.t q0),none⟩,⟨0,0,1⟩),
  (⟨(.slot q61),.load false 1 (.t q51),none⟩,⟨1,0,1⟩),
  (⟨(.slot q71),.call q211 [(.t q61)],none⟩,⟨3,1,2⟩),
  (⟨(.slot q02),.call q173 [(.t q11),(.t q41),(.t q71)],none⟩,⟨3,2,3⟩),
  (⟨(.slot q1),.move (.t q02),none⟩,⟨0,3,3⟩)])))
 (.reg (.pb .add (.t q2) (.k (.int .i64 1))
  (.sm q2 (.l x0)
  .fin))))))))
 (.seq (.seq (.reg (.sm q73 (.t q1)
  (.gen ⟨(.slot q14),.len (.t q73),none⟩
  (.sm q (.k (.int .i64 0))
  .fin))))
 (.block 4 (.loop (.seq (.regc (.pb .lss (.t q) (.t q14)
  .fin) (.l x0) .skip (.exit 4))
 (.seq (.block 5 (.seq (.reg (.gen ⟨.push,.move (.t q),none⟩
  (.pia 2 (.t q73) (.t q)
  (.pld true 2 (.l x0)
  (.gen ⟨(.slot q5),.box (.k (.agg [(.bool false),.snil])),none⟩
  (.sm q00 (.l x2)
  (.st 2 (.t q5) (.l x0)
  .fin)))))))
 (.regd [(⟨(.slot q12),.move (.t q6),none⟩,⟨0,0,0⟩),
  (⟨(.slot q22),.move (.t q00),none⟩,⟨0,0,0⟩),
  (⟨(.slot q32),.move (.t q4),none⟩,⟨0,0,0⟩),
  (⟨(.slot q42),.nilc (.t q32),none⟩,⟨0,0,0⟩),
  (⟨(.slot q52),.faddr 2 (.t q42),none⟩,⟨0,0,0⟩),
  (⟨(.slot q62),.load false 1 (.t q52),none⟩,⟨1,0,0⟩),
  (⟨(.slot q72),.len (.t q62),none⟩,⟨0,0,0⟩),
  (⟨(.slot q03),.bin .mul (.t q22) (.t q72),none⟩,⟨0,0,0⟩),
  (⟨(.slot q13),.faddr 0 (.t q63),none⟩,⟨0,0,0⟩),
  (⟨(.slot q23),.load false 1 (.t q13),none⟩,⟨1,0,0⟩),
  (⟨(.slot q33),.bin .add (.t q03) (.t q23),none⟩,⟨0,0,0⟩),
  (⟨(.slot q43),.load true 2 (.t q5),none⟩,⟨1,0,0⟩),
  (⟨(.slot q53),.iaddr 2 (.t q12) (.t q33),none⟩,⟨0,0,0⟩),
  (⟨.drop,.store 2 (.t q53) (.t q43),none⟩,⟨3,0,1⟩)])))
 (.reg (.pb .add (.t q) (.k (.int .i64 1))
  (.sm q (.l x0)
  .fin))))))))
 (.seq (.reg (.sm q34 (.t q6)
  .fin))
 .ret))))))))))),[(q34,none)],[]⟩
def c174 : CFn := ⟨[some q,some q700,some q0],(.seq (.reg (.gen ⟨(.slot q6),.box (.t q700),none⟩
  (.sm q600 (.k .snil)
  .fin)))
 (.seq (.reg (.sm q4 (.k .snil)
  .fin))
 (.seq (.block 0 (.loop (.seq (.regc (.pln (.t q)
  (.pb .gtr (.l x0) (.k (.int .i64 0))
  (.gen ⟨.push,.move (.t q0),some ((.l x0),false)⟩
  (.gen ⟨.push,.len (.l x0),some ((.l x1),false)⟩
  (.gen ⟨.push,.bin .gtr (.l x0) (.k (.int .i64 0)),some ((.l x2),false)⟩
  (.gen ⟨.push,.pick (.l x3) (.k (.bool true)) (.l x0),none⟩
  .fin)))))) (.l x0) .skip (.exit 0))
 (.block 1 (.block 2 (.seq (.regd [(⟨(.slot q03),.move (.t q0),none⟩,⟨0,0,0⟩),
  (⟨(.slot q13),.len (.t q03),none⟩,⟨0,0,0⟩),
  (⟨(.slot q23),.bin .eql (.t q13) (.k (.int .i64 0)),none⟩,⟨0,0,0⟩),
  (⟨(.slot q3),.move (.t q23),none⟩,⟨0,0,0⟩),
  (⟨(.slot q33),.move (.t q),some ((.t q3),false)⟩,⟨0,0,0⟩),
  (⟨(.slot q43),.len (.t q33),some ((.t q3),false)⟩,⟨0,0,0⟩),
  (⟨(.slot q53),.bin .gtr (.t q43) (.k (.int .i64 0)),some ((.t q3),false)⟩,⟨0,0,0⟩),
  (⟨(.slot q1),.move (.t q53),some ((.t q3),false)⟩,⟨0,0,0⟩),
  (⟨(.slot q63),.move (.t q),some ((.t q1),true)⟩,⟨0,0,0⟩),
  (⟨(.slot q73),.iaddr 5 (.t q63) (.k (.int .i64 0)),some ((.t q1),true)⟩,⟨0,0,0⟩),
  (⟨(.slot q04),.faddr 0 (.t q73),some ((.t q1),true)⟩,⟨0,0,0⟩),
  (⟨(.slot q14),.load false 1 (.t q04),some ((.t q1),true)⟩,⟨1,0,0⟩),
  (⟨(.slot q24),.move (.t q0),some ((.t q1),true)⟩,⟨0,0,0⟩),
  (⟨(.slot q34),.iaddr 5 (.t q24) (.k (.int .i64 0)),some ((.t q1),true)⟩,⟨0,0,0⟩),
  (⟨(.slot q44),.faddr 0 (.t q34),some ((.t q1),true)⟩,⟨0,0,0⟩),
  (⟨(.slot q54),.load false 1 (.t q44),some ((.t q1),true)⟩,⟨1,0,0⟩),
  (⟨(.slot q64),.bin .lss (.t q14) (.t q54),some ((.t q1),true)⟩,⟨0,0,0⟩),
  (⟨(.slot q74),.pick (.t q1) (.t q64) (.k (.bool false)),some ((.t q3),false)⟩,⟨0,0,0⟩),
  (⟨(.slot q05),.pick (.t q3) (.k (.bool true)) (.t q74),none⟩,⟨0,0,0⟩),
  (⟨(.slot q72),.move (.t q05),none⟩,⟨0,0,0⟩)])
 (.cond (.t q72) (.seq (.reg (.pia 5 (.t q) (.k (.int .i64 0))
  (.pld true 5 (.l x0)
  (.gen ⟨.push,.bsl 5 1 [(.int .i64 0),(.bool false),.snil,(.bool false),.snil] [(0,(.l x0))],none⟩
  (.gen ⟨.push,.append 5 72 (.t q4) (.l x0),none⟩
  (.sm q4 (.l x0)
  .fin))))))
 (.reg (.gen ⟨.push,.slc 5 (.t q) (some (.k (.int .i64 1))) none,none⟩
  (.sm q (.l x0)
  .fin)))) (.seq (.regd [(⟨(.slot q25),.move (.t q),none⟩,⟨0,0,0⟩),
  (⟨(.slot q35),.len (.t q25),none⟩,⟨0,0,0⟩),
  (⟨(.slot q45),.bin .eql (.t q35) (.k (.int .i64 0)),none⟩,⟨0,0,0⟩),
  (⟨(.slot q2),.move (.t q45),none⟩,⟨0,0,0⟩),
  (⟨(.slot q55),.move (.t q0),some ((.t q2),false)⟩,⟨0,0,0⟩),
  (⟨(.slot q65),.iaddr 5 (.t q55) (.k (.int .i64 0)),some ((.t q2),false)⟩,⟨0,0,0⟩),
  (⟨(.slot q75),.faddr 0 (.t q65),some ((.t q2),false)⟩,⟨0,0,0⟩),
  (⟨(.slot q06),.load false 1 (.t q75),some ((.t q2),false)⟩,⟨1,0,0⟩),
  (⟨(.slot q16),.move (.t q),some ((.t q2),false)⟩,⟨0,0,0⟩),
  (⟨(.slot q26),.iaddr 5 (.t q16) (.k (.int .i64 0)),some ((.t q2),false)⟩,⟨0,0,0⟩),
  (⟨(.slot q36),.faddr 0 (.t q26),some ((.t q2),false)⟩,⟨0,0,0⟩),
  (⟨(.slot q46),.load false 1 (.t q36),some ((.t q2),false)⟩,⟨1,0,0⟩),
  (⟨(.slot q56),.bin .lss (.t q06) (.t q46),some ((.t q2),false)⟩,⟨0,0,0⟩),
  (⟨(.slot q66),.pick (.t q2) (.k (.bool true)) (.t q56),none⟩,⟨0,0,0⟩),
  (⟨(.slot q15),.move (.t q66),none⟩,⟨0,0,0⟩)])
 (.cond (.t q15) (.seq (.regd [(⟨(.slot q76),.move (.t q4),none⟩,⟨0,0,2⟩),
  (⟨(.slot q07),.move (.t q0),none⟩,⟨0,0,2⟩),
  (⟨(.slot q17),.iaddr 5 (.t q07) (.k (.int .i64 0)),none⟩,⟨0,0,2⟩),
  (⟨(.slot q27),.faddr 0 (.t q17),none⟩,⟨0,0,2⟩),
  (⟨(.slot q37),.load false 1 (.t q27),none⟩,⟨1,0,2⟩),
  (⟨(.slot q47),.load true 4 (.t q6),none⟩,⟨1,0,0⟩),
  (⟨(.slot q57),.move (.t q0),none⟩,⟨0,0,0⟩),
  (⟨(.slot q67),.iaddr 5 (.t q57) (.k (.int .i64 0)),none⟩,⟨0,0,0⟩),
  (⟨(.slot q77),.faddr 1 (.t q67),none⟩,⟨0,0,0⟩),
  (⟨(.slot q000),.load true 4 (.t q77),none⟩,⟨1,0,0⟩),
  (⟨(.slot q100),.call q75 [(.t q47),(.t q000)],none⟩,⟨3,0,1⟩),
  (⟨(.slot q200),.call q551 [(.t q100)],none⟩,⟨3,1,2⟩),
  (⟨(.slot q300),.build [(.int .i64 0),(.bool false),.snil,(.bool false),.snil] [(0,1,(.t q37)),(1,4,(.t q200))],none⟩,⟨0,2,2⟩),
  (⟨(.slot q400),.bsl 5 1 [(.int .i64 0),(.bool false),.snil,(.bool false),.snil] [(0,(.t q300))],none⟩,⟨2,2,2⟩),
  (⟨(.slot q500),.append 5 72 (.t q76) (.t q400),none⟩,⟨3,2,3⟩),
  (⟨(.slot q4),.move (.t q500),none⟩,⟨0,3,3⟩)])
 (.reg (.gen ⟨.push,.slc 5 (.t q0) (some (.k (.int .i64 1))) none,none⟩
  (.sm q0 (.l x0)
  .fin)))) (.seq (.seq (.regd [(⟨(.slot q7),.move (.t q),none⟩,⟨0,0,1⟩),
  (⟨(.slot q00),.iaddr 5 (.t q7) (.k (.int .i64 0)),none⟩,⟨0,0,1⟩),
  (⟨(.slot q10),.faddr 1 (.t q00),none⟩,⟨0,0,1⟩),
  (⟨(.slot q20),.load true 4 (.t q10),none⟩,⟨1,0,1⟩),
  (⟨(.slot q30),.load true 4 (.t q6),none⟩,⟨1,0,0⟩),
  (⟨(.slot q40),.move (.t q0),none⟩,⟨0,0,0⟩),
  (⟨(.slot q50),.iaddr 5 (.t q40) (.k (.int .i64 0)),none⟩,⟨0,0,0⟩),
  (⟨(.slot q60),.faddr 1 (.t q50),none⟩,⟨0,0,0⟩),
  (⟨(.slot q70),.load true 4 (.t q60),none⟩,⟨1,0,0⟩),
  (⟨(.slot q01),.call q75 [(.t q30),(.t q70)],none⟩,⟨3,0,1⟩),
  (⟨(.slot q11),.call q261 [(.t q20),(.t q01)],none⟩,⟨3,1,2⟩),
  (⟨(.slot q5),.box (.k (.agg [(.bool false),.snil,(.bool false),.snil])),none⟩,⟨2,0,2⟩),
  (⟨.drop,.store 4 (.t q5) (.t q11),none⟩,⟨3,2,3⟩)])
 (.regc (.pld true 4 (.t q5)
  (.pca q15 [(.l x0)]
  (.pb .neq (.l x0) (.k (.int .i64 0))
  .fin))) (.l x0) (.regd [(⟨(.slot q21),.move (.t q4),none⟩,⟨0,0,0⟩),
  (⟨(.slot q31),.move (.t q),none⟩,⟨0,0,0⟩),
  (⟨(.slot q41),.iaddr 5 (.t q31) (.k (.int .i64 0)),none⟩,⟨0,0,0⟩),
  (⟨(.slot q51),.faddr 0 (.t q41),none⟩,⟨0,0,0⟩),
  (⟨(.slot q61),.load false 1 (.t q51),none⟩,⟨1,0,0⟩),
  (⟨(.slot q71),.load true 4 (.t q5),none⟩,⟨1,0,0⟩),
  (⟨(.slot q02),.build [(.int .i64 0),(.bool false),.snil,(.bool false),.snil] [(0,1,(.t q61)),(1,4,(.t q71))],none⟩,⟨0,0,0⟩),
  (⟨(.slot q12),.bsl 5 1 [(.int .i64 0),(.bool false),.snil,(.bool false),.snil] [(0,(.t q02))],none⟩,⟨2,0,0⟩),
  (⟨(.slot q22),.append 5 72 (.t q21) (.t q12),none⟩,⟨3,0,1⟩),
  (⟨(.slot q4),.move (.t q22),none⟩,⟨0,1,1⟩)]) .skip))
 (.regd [(⟨(.slot q32),.move (.t q),none⟩,⟨0,0,0⟩),
  (⟨(.slot q42),.slc 5 (.t q32) (some (.k (.int .i64 1))) none,none⟩,⟨0,0,0⟩),
  (⟨(.slot q52),.move (.t q0),none⟩,⟨0,0,0⟩),
  (⟨(.slot q62),.slc 5 (.t q52) (some (.k (.int .i64 1))) none,none⟩,⟨0,0,0⟩),
  (⟨(.slot q),.move (.t q42),none⟩,⟨0,0,0⟩),
  (⟨(.slot q0),.move (.t q62),none⟩,⟨0,0,0⟩)])))))))))))
 (.seq (.reg (.sm q600 (.t q4)
  .fin))
 .ret)))),[(q600,none)],[]⟩
def c175 : CFn := ⟨[some q,some q31,some q41],(.seq (.reg (.gen ⟨(.slot q0),.box (.k (.agg [(.int .i64 0),(.int .i64 0)])),none⟩
  .fin))
 (.seq (.regd [(⟨(.slot q1),.move (.t q),none⟩,⟨0,0,2⟩),
  (⟨(.slot q2),.nilc (.t q1),none⟩,⟨0,0,2⟩),
  (⟨(.slot q3),.faddr 3 (.t q2),none⟩,⟨0,0,2⟩),
  (⟨(.slot q4),.load false 1 (.t q3),none⟩,⟨1,0,2⟩),
  (⟨(.slot q5),.move (.t q),none⟩,⟨0,0,0⟩),
  (⟨(.slot q6),.move (.t q31),none⟩,⟨0,0,0⟩),
  (⟨(.slot q7),.call q073 [(.t q5),(.t q6)],none⟩,⟨3,0,1⟩),
  (⟨(.slot q00),.move (.t q),none⟩,⟨0,0,2⟩),
  (⟨(.slot q10),.nilc (.t q00),none⟩,⟨0,0,2⟩),
  (⟨(.slot q20),.faddr 0 (.t q10),none⟩,⟨0,0,2⟩),
  (⟨(.slot q30),.load false 1 (.t q20),none⟩,⟨1,0,2⟩),
  (⟨(.slot q40),.bin .mul (.t q7) (.t q30),none⟩,⟨0,1,2⟩),
  (⟨(.slot q50),.move (.t q),none⟩,⟨0,0,1⟩),
  (⟨(.slot q60),.move (.t q41),none⟩,⟨0,0,1⟩),
  (⟨(.slot q70),.call q073 [(.t q50),(.t q60)],none⟩,⟨3,1,2⟩),
  (⟨(.slot q01),.bin .add (.t q40) (.t q70),none⟩,⟨0,2,2⟩),
  (⟨(.slot q11),.iaddr 2 (.t q4) (.t q01),none⟩,⟨0,2,2⟩),
  (⟨(.slot q21),.load true 2 (.t q11),none⟩,⟨1,2,2⟩),
  (⟨.drop,.store 2 (.t q0) (.t q21),none⟩,⟨3,2,3⟩)])
 .ret)),[(q0,some (true,2))],[]⟩
def c176 : CFn := ⟨[some q6],(.seq (.reg (.sm q5 (.k .snil)
  .fin))
 (.seq (.reg (.pln (.t q6)
  (.gen ⟨.push,.mksl 4 64 [(.bool false),.snil,(.bool false),.snil] (.l x0) (.l x0),none⟩
  (.sm q2 (.l x0)
  .fin))))
 (.seq (.seq (.reg (.sm q3 (.t q6)
  (.gen ⟨(.slot q4),.len (.t q3),none⟩
  (.sm q (.k (.int .i64 0))
  .fin))))
 (.block 0 (.loop (.seq (.regc (.pb .lss (.t q) (.t q4)
  .fin) (.l x0) .skip (.exit 0))
 (.seq (.block 1 (.seq (.reg (.gen ⟨.push,.move (.t q),none⟩
  (.pia 4 (.t q3) (.t q)
  (.pld true 4 (.l x0)
  (.gen ⟨(.slot q0),.box (.k (.agg [(.bool false),.snil,(.bool false),.snil])),none⟩
  (.sm q1 (.l x2)
  (.st 4 (.t q0) (.l x0)
  .fin)))))))
 (.reg (.pld true 4 (.t q0)
  (.pca q77 [(.l x0)]
  (.pia 4 (.t q2) (.t q1)
  (.st 4 (.l x0) (.l x1)
  .fin)))))))
 (.reg (.pb .add (.t q) (.k (.int .i64 1))
  (.sm q (.l x0)
  .fin))))))))
 (.seq (.reg (.sm q5 (.t q2)
  .fin))
 .ret)))),[(q5,none)],[]⟩
def c177 : CFn := ⟨[some q0],(.seq (.reg (.sm q (.k (.bool false))
  .fin))
 (.seq (.reg (.pb .geq (.t q0) (.k (.int .i64 0))
  (.gen ⟨.push,.move (.t q0),some ((.l x0),true)⟩
  (.gen ⟨.push,.bin .leq (.l x0) (.k (.int .i64 1024)),some ((.l x1),true)⟩
  (.gen ⟨.push,.pick (.l x2) (.l x0) (.k (.bool false)),none⟩
  (.sm q (.l x0)
  .fin))))))
 .ret)),[(q,none)],[]⟩
def c178 : CFn := ⟨[some q6,some q5],(.seq (.reg (.gen ⟨(.slot q4),.box (.k (.agg [(.int .i64 0),(.int .i64 0),.snil])),none⟩
  .fin))
 (.seq (.reg (.pln (.t q5)
  (.gen ⟨.push,.build [(.int .i64 0),(.int .i64 0),.snil] [(0,1,(.l x0)),(1,1,(.t q6))],none⟩
  (.gen ⟨(.slot q0),.box (.k (.agg [(.int .i64 0),(.int .i64 0),.snil])),none⟩
  (.st 3 (.t q0) (.l x0)
  .fin)))))
 (.seq (.seq (.reg (.sm q2 (.t q5)
  (.gen ⟨(.slot q3),.len (.t q2),none⟩
  (.sm q (.k (.int .i64 0))
  .fin))))
 (.block 0 (.loop (.seq (.regc (.pb .lss (.t q) (.t q3)
  .fin) (.l x0) .skip (.exit 0))
 (.seq (.block 1 (.seq (.reg (.pia 1 (.t q2) (.t q)
  (.pld false 1 (.l x0)
  (.sm q1 (.l x0)
  .fin))))
 (.reg (.pfa 2 (.t q0)
  (.pld false 1 (.l x0)
  (.gen ⟨.push,.append 4 64 (.l x0) (.t q1),none⟩
  (.pfa 2 (.t q0)
  (.st 1 (.l x0) (.l x1)
  .fin))))))))
 (.reg (.pb .add (.t q) (.k (.int .i64 1))
  (.sm q (.l x0)
  .fin))))))))
 (.seq (.reg (.pld true 3 (.t q0)
  (.st 3 (.t q4) (.l x0)
  .fin)))
 .ret)))),[(q4,some (true,3))],[]⟩
def c179 : CFn := ⟨[some q12],(.seq (.reg (.gen ⟨(.slot q2),.box (.t q12),none⟩
  (.sm q02 (.k .snil)
  .fin)))
 (.seq (.reg (.pfa 0 (.t q2)
  (.pld false 1 (.l x0)
  (.gen ⟨.push,.mksl 1 24 [.snil] (.l x0) (.l x0),none⟩
  (.sm q41 (.l x0)
  .fin)))))
 (.seq (.seq (.reg (.gen ⟨(.slot q71),.len (.t q41),none⟩
  (.sm q61 (.k (.int .i64 0))
  .fin)))
 (.block 0 (.loop (.seq (.regc (.pb .lss (.t q61) (.t q71)
  .fin) (.l x0) .skip (.exit 0))
 (.seq (.block 1 (.seq (.reg (.sm q1 (.t q61)
  .fin))
 (.seq (.reg (.pfa 1 (.t q2)
  (.pld false 1 (.l x0)
  (.gen ⟨.push,.mksl 4 64 [(.bool false),.snil,(.bool false),.snil] (.l x0) (.l x0),none⟩
  (.pia 1 (.t q41) (.t q1)
  (.st 1 (.l x0) (.l x1)
  .fin))))))
 (.seq (.reg (.pia 1 (.t q41) (.t q1)
  (.pld false 1 (.l x0)
  (.gen ⟨(.slot q51),.len (.l x0),none⟩
  (.sm q (.k (.int .i64 0))
  .fin)))))
 (.block 2 (.loop (.seq (.regc (.pb .lss (.t q) (.t q51)
  .fin) (.l x0) .skip (.exit 2))
 (.seq (.block 3 (.seq (.reg (.sm q0 (.t q)
  .fin))
 (.regd [(⟨(.slot q3),.move (.t q41),none⟩,⟨0,0,1⟩),
  (⟨(.slot q4),.move (.t q1),none⟩,⟨0,0,1⟩),
  (⟨(.slot q5),.iaddr 1 (.t q3) (.t q4),none⟩,⟨0,0,1⟩),
  (⟨(.slot q6),.load false 1 (.t q5),none⟩,⟨1,0,1⟩),
  (⟨(.slot q7),.move (.t q0),none⟩,⟨0,0,1⟩),
  (⟨(.slot q00),.faddr 2 (.t q2),none⟩,⟨0,0,0⟩),
  (⟨(.slot q10),.load false 1 (.t q00),none⟩,⟨1,0,0⟩),
  (⟨(.slot q20),.move (.t q1),none⟩,⟨0,0,0⟩),
  (⟨(.slot q30),.faddr 1 (.t q2),none⟩,⟨0,0,0⟩),
  (⟨(.slot q40),.load false 1 (.t q30),none⟩,⟨1,0,0⟩),
  (⟨(.slot q50),.bin .mul (.t q20) (.t q40),none⟩,⟨0,0,0⟩),
  (⟨(.slot q60),.move (.t q0),none⟩,⟨0,0,0⟩),
  (⟨(.slot q70),.bin .add (.t q50) (.t q60),none⟩,⟨0,0,0⟩),
  (⟨(.slot q01),.iaddr 4 (.t q10) (.t q70),none⟩,⟨0,0,0⟩),
  (⟨(.slot q11),.load true 4 (.t q01),none⟩,⟨1,0,0⟩),
  (⟨(.slot q21),.call q77 [(.t q11)],none⟩,⟨3,0,1⟩),
  (⟨(.slot q31),.iaddr 4 (.t q6) (.t q7),none⟩,⟨0,1,1⟩),
  (⟨.drop,.store 4 (.t q31) (.t q21),none⟩,⟨3,1,2⟩)])))
 (.reg (.pb .add (.t q) (.k (.int .i64 1))
  (.sm q (.l x0)
  .fin)))))))))))
 (.reg (.pb .add (.t q61) (.k (.int .i64 1))
  (.sm q61 (.l x0)
  .fin))))))))
 (.seq (.reg (.sm q02 (.t q41)
  .fin))
 .ret)))),[(q02,none)],[]⟩
def c180 : CFn := ⟨[some q4],(.seq (.reg (.gen ⟨(.slot q),.box (.t q4),none⟩
  (.sm q0 (.k (.int .i64 0))
  .fin)))
 (.seq (.regc (.pfa 0 (.t q)
  (.pld false 1 (.l x0)
  (.pb .lss (.l x0) (.k (.int .i64 1))
  (.gen ⟨.push,.faddr 0 (.t q),some ((.l x0),false)⟩
  (.gen ⟨.push,.load false 1 (.l x0),some ((.l x1),false)⟩
  (.gen ⟨.push,.bin .gtr (.l x0) (.k (.int .i64 120)),some ((.l x2),false)⟩
  (.gen ⟨.push,.pick (.l x3) (.k (.bool true)) (.l x0),none⟩
  (.gen ⟨.push,.faddr 1 (.t q),some ((.l x0),false)⟩
  (.gen ⟨.push,.load false 1 (.l x0),some ((.l x1),false)⟩
  (.gen ⟨.push,.bin .lss (.l x0) (.k (.int .i64 2)),some ((.l x2),false)⟩
  (.gen ⟨.push,.pick (.l x3) (.k (.bool true)) (.l x0),none⟩
  (.gen ⟨.push,.faddr 1 (.t q),some ((.l x0),false)⟩
  (.gen ⟨.push,.load false 1 (.l x0),some ((.l x1),false)⟩
  (.gen ⟨.push,.bin .gtr (.l x0) (.k (.int .i64 24)),some ((.l x2),false)⟩
  (.gen ⟨.push,.pick (.l x3) (.k (.bool true)) (.l x0),none⟩
  (.gen ⟨.push,.faddr 2 (.t q),some ((.l x0),false)⟩
  (.gen ⟨.push,.load false 1 (.l x0),some ((.l x1),false)⟩
  (.gen ⟨.push,.bin .lss (.l x0) (.k (.int .i64 (-120))),some ((.l x2),false)⟩
  (.gen ⟨.push,.pick (.l x3) (.k (.bool true)) (.l x0),none⟩
  (.gen ⟨.push,.faddr 2 (.t q),some ((.l x0),false)⟩
  (.gen ⟨.push,.load false 1 (.l x0),some ((.l x1),false)⟩
  (.gen ⟨.push,.bin .gtr (.l x0) (.k (.int .i64 120)),some ((.l x2),false)⟩
  (.gen ⟨.push,.pick (.l x3) (.k (.bool true)) (.l x0),none⟩
  .fin))))))))))))))))))))))) (.l x0) (.seq (.reg (.sm q0 (.k (.int .i64 2))
  .fin))
 .ret) .skip)
 (.seq (.seq (.reg (.pfa 2 (.t q)
  (.pld false 1 (.l x0)
  (.pca q46 [(.l x0)]
  (.pex (.l x0) 0
  (.pex (.l x1) 1
  (.pex (.l x2) 2
  (.sm q1 (.l x1)
  (.sm q2 (.l x0)
  .fin)))))))))
 (.regc (.pb .neq (.t q2) (.k (.int .i64 0))
  (.gen ⟨.push,.move (.t q1),some ((.l x0),false)⟩
  (.gen ⟨.push,.bin .neq (.l x0) (.k (.int .i64 1)),some ((.l x1),false)⟩
  (.gen ⟨.push,.pick (.l x2) (.k (.bool true)) (.l x0),none⟩
  .fin)))) (.l x0) (.seq (.reg (.sm q0 (.k (.int .i64 15))
  .fin))
 .ret) .skip))
 (.seq (.reg (.pfa 0 (.t q)
  (.pld false 1 (.l x0)
  (.pca q562 [(.l x0)]
  (.pex (.l x0) 0
  (.pex (.l x1) 1
  (.sm q3 (.l x1)
  .fin)))))))
 (.seq (.block 0 (.regc (.pfa 0 (.t q)
  (.pld false 1 (.l x0)
  (.pfa 2 (.t q)
  (.pld false 1 (.l x0)
  (.pb .rem (.l x2) (.l x0)
  (.pb .neq (.l x0) (.k (.int .i64 0))
  .fin)))))) (.l x0) (.seq (.reg (.sm q0 (.k (.int .i64 14))
  .fin))
 .ret) (.regc (.pfa 2 (.t q)
  (.pld false 1 (.l x0)
  (.pb .lss (.l x0) (.k (.int .i64 0))
  (.pfa 1 (.t q)
  (.pld false 1 (.l x0)
  (.pb .rem (.l x0) (.k (.int .i64 2))
  (.pb .eql (.l x0) (.k (.int .i64 1))
  (.gen ⟨.push,.cmp 0 .neq (.l x4) (.l x0),none⟩
  .fin)))))))) (.l x0) (.seq (.reg (.sm q0 (.k (.int .i64 16))
  .fin))
 .ret) (.regc (.pfa 1 (.t q)
  (.pld false 1 (.l x0)
  (.pb .sub (.l x0) (.k (.int .i64 1))
  (.pb .mul (.t q3) (.l x0)
  (.pb .gtr (.l x0) (.k (.int .i64 512))
  .fin))))) (.l x0) (.seq (.reg (.sm q0 (.k (.int .i64 7))
  .fin))
 .ret) .skip))))
 (.seq (.reg (.sm q0 (.k (.int .i64 0))
  .fin))
 .ret)))))),[(q0,none)],[]⟩
def c181 : CFn := ⟨[some q1],(.seq (.reg (.sm q (.k (.int .i64 0))
  (.sm q0 (.k (.int .i64 0))
  .fin)))
 (.seq (.reg (.pca q273 [(.t q1),(.k (.fnv q373 []))]
  (.pex (.l x0) 0
  (.pex (.l x1) 1
  (.sm q (.l x1)
  (.sm q0 (.l x0)
  .fin))))))
 .ret)),[(q,none),(q0,none)],[]⟩
def c182 : CFn := ⟨[some q0],(.seq (.reg (.sm q1 (.k (.bool false))
  .fin))
 (.seq (.regc (.pb .lss (.t q0) (.k (.int .i64 2))
  .fin) (.l x0) (.seq (.reg (.sm q1 (.k (.bool false))
  .fin))
 .ret) .skip)
 (.seq (.seq (.reg (.sm q (.k (.int .i64 2))
  .fin))
 (.block 0 (.loop (.seq (.regc (.pb .mul (.t q) (.t q)
  (.pb .leq (.l x0) (.t q0)
  .fin)) (.l x0) .skip (.exit 0))
 (.seq (.block 1 (.regc (.pb .rem (.t q0) (.t q)
  (.pb .eql (.l x0) (.k (.int .i64 0))
  .fin)) (.l x0) (.seq (.reg (.sm q1 (.k (.bool false))
  .fin))
 .ret) .skip))
 (.reg (.pb .add (.t q) (.k (.int .i64 1))
  (.sm q (.l x0)
  .fin))))))))
 (.seq (.reg (.sm q1 (.k (.bool true))
  .fin))
 .ret)))),[(q1,none)],[]⟩
def c183 : CFn := ⟨[some q4],(.seq (.reg (.gen ⟨(.slot q2),.box (.t q4),none⟩
  (.sm q (.k (.int .i64 0))
  (.sm q0 (.k (.int .i64 0))
  .fin))))
 (.seq (.reg (.pld true 3 (.t q2)
  (.pca q352 [(.l x0)]
  (.pex (.l x0) 0
  (.pex (.l x1) 1
  (.sm q3 (.l x1)
  (.sm q1 (.l x0)
  .fin)))))))
 (.seq (.regc (.pb .neq (.t q1) (.k (.int .i64 0))
  .fin) (.l x0) (.seq (.reg (.gen ⟨.push,.move (.t q1),none⟩
  (.sm q (.k (.int .i64 0))
  (.sm q0 (.l x0)
  .fin))))
 .ret) .skip)
 (.seq (.reg (.pca q452 [(.t q3)]
  (.sm q (.l x0)
  (.sm q0 (.k (.int .i64 0))
  .fin))))
 .ret)))),[(q,none),(q0,none)],[]⟩
def c184 : CFn := ⟨[some q71,some q2,some q02],(.seq (.reg (.gen ⟨(.slot q5),.box (.t q71),none⟩
  (.gen ⟨(.slot q3),.box (.t q02),none⟩
  (.sm q (.k .snil)
  (.sm q0 (.k (.int .i64 0))
  .fin)))))
 (.seq (.reg (.pld true 3 (.t q5)
  (.pca q352 [(.l x0)]
  (.pex (.l x0) 0
  (.pex (.l x1) 1
  (.sm q1 (.l x1)
  (.sm q4 (.l x0)
  .fin)))))))
 (.seq (.regc (.pb .neq (.t q4) (.k (.int .i64 0))
  .fin) (.l x0) (.seq (.reg (.gen ⟨.push,.move (.t q4),none⟩
  (.sm q (.k .snil)
  (.sm q0 (.l x0)
  .fin))))
 .ret) .skip)
 (.seq (.regc (.pb .lss (.t q2) (.k (.int .i64 0))
  (.gen ⟨.push,.move (.t q2),some ((.l x0),false)⟩
  (.gen ⟨.push,.move (.t q1),some ((.l x1),false)⟩
  (.gen ⟨.push,.call q452 [(.l x0)],some ((.l x2),false)⟩
  (.gen ⟨.push,.bin .geq (.l x2) (.l x0),some ((.l x3),false)⟩
  (.gen ⟨.push,.pick (.l x4) (.k (.bool true)) (.l x0),none⟩
  (.gen ⟨.push,.load true 4 (.t q3),some ((.l x0),false)⟩
  (.gen ⟨.push,.call q473 [(.l x0)],some ((.l x1),false)⟩
  (.gen ⟨.push,.pick (.l x2) (.k (.bool true)) (.l x0),none⟩
  .fin))))))))) (.l x0) (.seq (.reg (.sm q (.k .snil)
  (.sm q0 (.k (.int .i64 2))
  .fin)))
 .ret) .skip)
 (.seq (.regd [(⟨(.slot q6),.move (.t q1),none⟩,⟨0,0,0⟩),
  (⟨(.slot q7),.move (.t q2),none⟩,⟨0,0,0⟩),
  (⟨(.slot q00),.move (.t q1),none⟩,⟨0,0,0⟩),
  (⟨(.slot q10),.nilc (.t q00),none⟩,⟨0,0,0⟩),
  (⟨(.slot q20),.faddr 2 (.t q10),none⟩,⟨0,0,0⟩),
  (⟨(.slot q30),.load false 1 (.t q20),none⟩,⟨1,0,0⟩),
  (⟨(.slot q40),.len (.t q30),none⟩,⟨0,0,0⟩),
  (⟨(.slot q50),.bin .quo (.t q7) (.t q40),none⟩,⟨0,0,0⟩),
  (⟨(.slot q60),.move (.t q2),none⟩,⟨0,0,0⟩),
  (⟨(.slot q70),.move (.t q1),none⟩,⟨0,0,0⟩),
  (⟨(.slot q01),.nilc (.t q70),none⟩,⟨0,0,0⟩),
  (⟨(.slot q11),.faddr 2 (.t q01),none⟩,⟨0,0,0⟩),
  (⟨(.slot q21),.load false 1 (.t q11),none⟩,⟨1,0,0⟩),
  (⟨(.slot q31),.len (.t q21),none⟩,⟨0,0,0⟩),
  (⟨(.slot q41),.bin .rem (.t q60) (.t q31),none⟩,⟨0,0,0⟩),
  (⟨(.slot q51),.load true 4 (.t q3),none⟩,⟨1,0,0⟩),
  (⟨(.slot q61),.call q552 [(.t q6),(.t q50),(.t q41),(.t q51)],none⟩,⟨3,0,1⟩),
  (⟨(.slot q),.move (.t q61),none⟩,⟨0,1,1⟩),
  (⟨(.slot q0),.move (.k (.int .i64 0)),none⟩,⟨0,1,1⟩)])
 .ret))))),[(q,none),(q0,none)],[]⟩
def c185 : CFn := ⟨[some q60,some q41],(.seq (.reg (.sm q21 (.k .snil)
  (.sm q31 (.k (.int .i64 0))
  .fin)))
 (.seq (.regc (.gen ⟨.push,.cmp 1 .eql (.t q60) (.k .pnil),none⟩
  .fin) (.l x0) (.seq (.reg (.sm q21 (.k .snil)
  (.sm q31 (.k (.int .i64 1))
  .fin)))
 .ret) .skip)
 (.seq (.regc (.pln (.t q41)
  (.gen ⟨.push,.nilc (.t q60),none⟩
  (.pfa 4 (.l x0)
  (.pld false 1 (.l x0)
  (.pln (.l x0)
  (.pb .neq (.l x4) (.l x0)
  .fin)))))) (.l x0) (.seq (.reg (.sm q21 (.k .snil)
  (.sm q31 (.k (.int .i64 4))
  .fin)))
 .ret) .skip)
 (.seq (.reg (.gen ⟨.push,.nilc (.t q60),none⟩
  (.pfa 3 (.l x0)
  (.pld false 1 (.l x0)
  (.pln (.l x0)
  (.gen ⟨.push,.mksl 4 64 [(.bool false),.snil,(.bool false),.snil] (.l x0) (.l x0),none⟩
  (.sm q2 (.l x0)
  .fin)))))))
 (.seq (.seq (.reg (.gen ⟨(.slot q01),.len (.t q2),none⟩
  (.sm q0 (.k (.int .i64 0))
  .fin)))
 (.block 0 (.loop (.seq (.regc (.pb .lss (.t q0) (.t q01)
  .fin) (.l x0) .skip (.exit 0))
 (.seq (.block 1 (.seq (.reg (.sm q3 (.t q0)
  .fin))
 (.reg (.pca q24 [(.k (.int .i64 0))]
  (.pia 4 (.t q2) (.t q3)
  (.st 4 (.l x0) (.l x1)
  .fin))))))
 (.reg (.pb .add (.t q0) (.k (.int .i64 1))
  (.sm q0 (.l x0)
  .fin))))))))
 (.seq (.seq (.reg (.sm q70 (.t q41)
  (.gen ⟨(.slot q11),.len (.t q70),none⟩
  (.sm q (.k (.int .i64 0))
  .fin))))
 (.block 2 (.loop (.seq (.regc (.pb .lss (.t q) (.t q11)
  .fin) (.l x0) .skip (.exit 2))
 (.seq (.block 3 (.seq (.reg (.gen ⟨.push,.move (.t q),none⟩
  (.pia 4 (.t q70) (.t q)
  (.pld true 4 (.l x0)
  (.gen ⟨(.slot q1),.box (.k (.agg [(.bool false),.snil,(.bool false),.snil])),none⟩
  (.sm q4 (.l x2)
  (.st 4 (.t q1) (.l x0)
  .fin)))))))
 (.regc (.pld true 4 (.t q1)
  (.pca q15 [(.l x0)]
  (.pb .neq (.l x0) (.k (.int .i64 0))
  .fin))) (.l x0) (.regd [(⟨(.slot q5),.move (.t q2),none⟩,⟨0,0,0⟩),
  (⟨(.slot q6),.load true 4 (.t q1),none⟩,⟨1,0,0⟩),
  (⟨(.slot q7),.move (.t q60),none⟩,⟨0,0,0⟩),
  (⟨(.slot q00),.nilc (.t q7),none⟩,⟨0,0,0⟩),
  (⟨(.slot q10),.faddr 4 (.t q00),none⟩,⟨0,0,0⟩),
  (⟨(.slot q20),.load false 1 (.t q10),none⟩,⟨1,0,0⟩),
  (⟨(.slot q30),.move (.t q4),none⟩,⟨0,0,0⟩),
  (⟨(.slot q40),.iaddr 1 (.t q20) (.t q30),none⟩,⟨0,0,0⟩),
  (⟨(.slot q50),.load false 1 (.t q40),none⟩,⟨1,0,0⟩),
  (⟨.drop,.call q451 [(.t q5),(.t q6),(.t q50)],none⟩,⟨3,0,1⟩)]) .skip)))
 (.reg (.pb .add (.t q) (.k (.int .i64 1))
  (.sm q (.l x0)
  .fin))))))))
 (.seq (.reg (.sm q21 (.t q2)
  (.sm q31 (.k (.int .i64 0))
  .fin)))
 .ret))))))),[(q21,none),(q31,none)],[]⟩
def c186 : CFn := ⟨[some q1],(.seq (.reg (.gen ⟨(.slot q),.box (.t q1),none⟩
  (.sm q0 (.k (.bool false))
  .fin)))
 (.seq (.reg (.pfa 0 (.t q)
  (.pld false 1 (.l x0)
  (.pca q162 [(.l x0)]
  (.gen ⟨.push,.faddr 1 (.t q),some ((.l x0),true)⟩
  (.gen ⟨.push,.load false 1 (.l x0),some ((.l x1),true)⟩
  (.gen ⟨.push,.call q162 [(.l x0)],some ((.l x2),true)⟩
  (.gen ⟨.push,.pick (.l x3) (.l x0) (.k (.bool false)),none⟩
  (.gen ⟨.push,.faddr 2 (.t q),some ((.l x0),true)⟩
  (.gen ⟨.push,.load false 1 (.l x0),some ((.l x1),true)⟩
  (.gen ⟨.push,.len (.l x0),some ((.l x2),true)⟩
  (.gen ⟨.push,.faddr 0 (.t q),some ((.l x3),true)⟩
  (.gen ⟨.push,.load false 1 (.l x0),some ((.l x4),true)⟩
  (.gen ⟨.push,.faddr 1 (.t q),some ((.l x5),true)⟩
  (.gen ⟨.push,.load false 1 (.l x0),some ((.l x6),true)⟩
  (.gen ⟨.push,.bin .mul (.l x2) (.l x0),some ((.l x7),true)⟩
  (.gen ⟨.push,.bin .eql (.l x5) (.l x0),some ((.l x8),true)⟩
  (.gen ⟨.push,.pick (.l x9) (.l x0) (.k (.bool false)),none⟩
  (.sm q0 (.l x0)
  .fin)))))))))))))))))))
 .ret)),[(q0,none)],[]⟩
def c187 : CFn := ⟨[some q01],(.seq (.reg (.gen ⟨(.slot q2),.box (.t q01),none⟩
  (.sm q5 (.k .snil)
  (.sm q6 (.k .snil)
  .fin))))
 (.seq (.regd [(⟨(.slot q20),.load true 3 (.t q2),none⟩,⟨1,0,0⟩),
  (⟨(.slot q30),.call q362 [(.t q20)],none⟩,⟨3,0,1⟩),
  (⟨(.slot q40),.faddr 0 (.t q2),none⟩,⟨0,0,1⟩),
  (⟨(.slot q50),.load false 1 (.t q40),none⟩,⟨1,0,1⟩),
  (⟨(.slot q60),.call q653 [(.t q50)],none⟩,⟨3,1,2⟩),
  (⟨(.slot q70),.call q573 [(.t q30),(.t q60)],none⟩,⟨3,2,3⟩),
  (⟨(.slot q7),.move (.t q70),none⟩,⟨0,3,3⟩)])
 (.seq (.reg (.pfa 1 (.t q2)
  (.pld false 1 (.l x0)
  (.pca q553 [(.t q7),(.l x0)]
  (.pex (.l x0) 0
  (.pex (.l x1) 1
  (.gen ⟨.push,.box (.k (.agg [(.bool false),.snil,(.bool false),.snil])),none⟩
  (.sm q00 (.l x2)
  (.st 4 (.l x0) (.l x1)
  .fin)))))))))
 (.seq (.reg (.sm q0 (.k .snil)
  .fin))
 (.seq (.seq (.reg (.pln (.t q00)
  (.gen ⟨(.slot q3),.slc 1 (.t q7) (some (.l x0)) none,none⟩
  (.gen ⟨(.slot q4),.len (.t q3),none⟩
  (.sm q (.k (.int .i64 0))
  .fin)))))
 (.block 0 (.loop (.seq (.regc (.pb .lss (.t q) (.t q4)
  .fin) (.l x0) .skip (.exit 0))
 (.seq (.block 1 (.seq (.reg (.pia 1 (.t q3) (.t q)
  (.pld false 1 (.l x0)
  (.sm q1 (.l x0)
  .fin))))
 (.reg (.pfa 1 (.t q2)
  (.pld false 1 (.l x0)
  (.gen ⟨.push,.slc 4 (.t q1) (some (.l x0)) none,none⟩
  (.gen ⟨.push,.bsl 1 1 [.snil] [(0,(.l x0))],none⟩
  (.gen ⟨.push,.append 1 24 (.t q0) (.l x0),none⟩
  (.sm q0 (.l x0)
  .fin)))))))))
 (.reg (.pb .add (.t q) (.k (.int .i64 1))
  (.sm q (.l x0)
  .fin))))))))
 (.seq (.reg (.pfa 0 (.t q2)
  (.pld false 1 (.l x0)
  (.pca q553 [(.t q0),(.l x0)]
  (.pex (.l x0) 0
  (.pex (.l x1) 1
  (.gen ⟨.push,.box (.k (.agg [(.bool false),.snil,(.bool false),.snil])),none⟩
  (.sm q10 (.l x2)
  (.st 4 (.l x0) (.l x1)
  .fin)))))))))
 (.seq (.reg (.gen ⟨.push,.move (.t q10),none⟩
  (.sm q5 (.t q0)
  (.sm q6 (.l x0)
  .fin))))
 .ret))))))),[(q5,none),(q6,none)],[]⟩
def c188 : CFn := ⟨[some q5,some q3],(.seq (.reg (.sm q4 (.k .snil)
  .fin))
 (.seq (.reg (.gen ⟨.push,.mksl 1 24 [.snil] (.t q5) (.t q5),none⟩
  (.sm q1 (.l x0)
  .fin)))
 (.seq (.seq (.reg (.gen ⟨(.slot q2),.len (.t q1),none⟩
  (.sm q (.k (.int .i64 0))
  .fin)))
 (.block 0 (.loop (.seq (.regc (.pb .lss (.t q) (.t q2)
  .fin) (.l x0) .skip (.exit 0))
 (.seq (.block 1 (.seq (.reg (.sm q0 (.t q)
  .fin))
 (.reg (.pca q673 [(.t q3)]
  (.pia 1 (.t q1) (.t q0)
  (.st 1 (.l x0) (.l x1)
  .fin))))))
 (.reg (.pb .add (.t q) (.k (.int .i64 1))
  (.sm q (.l x0)
  .fin))))))))
 (.seq (.reg (.sm q4 (.t q1)
  .fin))
 .ret)))),[(q4,none)],[]⟩
def c189 : CFn := ⟨[some q1,some q50,some q70],(.seq (.reg (.sm q60 (.k .snil)
  .fin))
 (.seq (.reg (.pca q673 [(.t q70)]
  (.sm q30 (.l x0)
  .fin)))
 (.seq (.seq (.reg (.gen ⟨(.slot q40),.len (.t q1),none⟩
  (.sm q (.k (.int .i64 0))
  .fin)))
 (.block 0 (.loop (.seq (.regc (.pb .lss (.t q) (.t q40)
  .fin) (.l x0) .skip (.exit 0))
 (.seq (.block 1 (.seq (.reg (.sm q0 (.t q)
  .fin))
 (.regc (.pia 4 (.t q1) (.t q0)
  (.pld true 4 (.l x0)
  (.pca q773 [(.l x0)]
  .fin))) (.l x0) (.regd [(⟨(.slot q2),.move (.t q30),none⟩,⟨0,0,0⟩),
  (⟨(.slot q3),.move (.t q50),none⟩,⟨0,0,0⟩),
  (⟨(.slot q4),.move (.t q0),none⟩,⟨0,0,0⟩),
  (⟨(.slot q5),.iaddr 1 (.t q3) (.t q4),none⟩,⟨0,0,0⟩),
  (⟨(.slot q6),.load false 1 (.t q5),none⟩,⟨1,0,0⟩),
  (⟨(.slot q7),.move (.t q1),none⟩,⟨0,0,0⟩),
  (⟨(.slot q00),.move (.t q0),none⟩,⟨0,0,0⟩),
  (⟨(.slot q10),.iaddr 4 (.t q7) (.t q00),none⟩,⟨0,0,0⟩),
  (⟨(.slot q20),.load true 4 (.t q10),none⟩,⟨1,0,0⟩),
  (⟨.drop,.call q004 [(.t q2),(.t q6),(.t q20),(.k (.int .i64 0))],none⟩,⟨3,0,1⟩)]) .skip)))
 (.reg (.pb .add (.t q) (.k (.int .i64 1))
  (.sm q (.l x0)
  .fin))))))))
 (.seq (.reg (.sm q60 (.t q30)
  .fin))
 .ret)))),[(q60,none)],[]⟩
def c190 : CFn := ⟨[some q3,some q4],(.seq (.reg (.gen ⟨(.slot q2),.box (.t q3),none⟩
  (.gen ⟨(.slot q1),.box (.t q4),none⟩
  (.gen ⟨(.slot q),.box (.k (.agg [(.bool false),.snil,(.bool false),.snil])),none⟩
  (.sm q0 (.k (.int .i64 0))
  .fin)))))
 (.seq (.regc (.pld true 2 (.t q1)
  (.pca q221 [(.l x0)]
  (.pb .eql (.l x0) (.k (.int .i64 0))
  .fin))) (.l x0) (.seq (.reg (.gen ⟨.push,.build [(.bool false),.snil,(.bool false),.snil] [],none⟩
  (.st 4 (.t q) (.l x0)
  (.sm q0 (.k (.int .i64 5))
  .fin))))
 .ret) .skip)
 (.seq (.reg (.pld true 2 (.t q2)
  (.pld true 2 (.t q1)
  (.pca q331 [(.l x1),(.l x0)]
  (.st 4 (.t q) (.l x0)
  (.sm q0 (.k (.int .i64 0))
  .fin))))))
 .ret))),[(q,some (true,4)),(q0,none)],[]⟩
def c191 : CFn := ⟨[some q01],(.seq (.reg (.gen ⟨(.slot q00),.box (.k (.agg [(.int .i64 0),(.int .i64 0),.snil])),none⟩
  (.sm q10 (.k (.int .i64 0))
  .fin)))
 (.seq (.regc (.gen ⟨.push,.cmp 1 .eql (.t q01) (.k .pnil),none⟩
  .fin) (.l x0) (.seq (.reg (.gen ⟨.push,.build [(.int .i64 0),(.int .i64 0),.snil] [],none⟩
  (.st 3 (.t q00) (.l x0)
  (.sm q10 (.k (.int .i64 1))
  .fin))))
 .ret) .skip)
 (.seq (.reg (.pca q36 [(.t q01)]
  (.gen ⟨(.slot q6),.box (.k (.agg [(.int .i64 0),(.int .i64 0),(.int .i64 0)])),none⟩
  (.st 3 (.t q6) (.l x0)
  .fin))))
 (.seq (.reg (.pld true 3 (.t q6)
  (.pca q104 [(.l x0)]
  (.pex (.l x0) 0
  (.pex (.l x1) 1
  (.sm q20 (.l x1)
  (.sm q11 (.l x0)
  .fin)))))))
 (.seq (.regc (.pb .neq (.t q11) (.k (.int .i64 0))
  .fin) (.l x0) (.seq (.reg (.gen ⟨.push,.build [(.int .i64 0),(.int .i64 0),.snil] [],none⟩
  (.st 3 (.t q00) (.l x0)
  (.sm q10 (.t q11)
  .fin))))
 .ret) .skip)
 (.seq (.reg (.pca q27 [(.t q01)]
  (.gen ⟨.push,.mksl 1 24 [.snil] (.k (.int .i64 0)) (.l x0),none⟩
  (.sm q30 (.l x0)
  .fin))))
 (.seq (.seq (.reg (.gen ⟨(.slot q60),.call q651 [(.t q01)],none⟩
  (.gen ⟨(.slot q70),.len (.t q60),none⟩
  (.sm q7 (.k (.int .i64 0))
  .fin))))
 (.block 0 (.loop (.seq (.regc (.pb .lss (.t q7) (.t q70)
  .fin) (.l x0) .skip (.exit 0))
 (.seq (.block 1 (.seq (.reg (.pia 1 (.t q60) (.t q7)
  (.pld false 1 (.l x0)
  (.sm q40 (.l x0)
  .fin))))
 (.seq (.reg (.pld true 3 (.t q6)
  (.pca q204 [(.l x0),(.t q40)]
  (.pex (.l x0) 0
  (.pex (.l x1) 1
  (.gen ⟨(.slot q4),.box (.k (.agg [(.int .i64 0),(.int .i64 0),(.int .i64 0)])),none⟩
  (.st 3 (.t q4) (.l x1)
  (.sm q2 (.l x0)
  .fin))))))))
 (.seq (.regc (.pb .neq (.t q2) (.k (.int .i64 0))
  .fin) (.l x0) (.seq (.reg (.gen ⟨.push,.build [(.int .i64 0),(.int .i64 0),.snil] [],none⟩
  (.st 3 (.t q00) (.l x0)
  (.sm q10 (.t q2)
  .fin))))
 .ret) .skip)
 (.seq (.reg (.pfa 0 (.t q6)
  (.pld false 1 (.l x0)
  (.pfa 1 (.t q4)
  (.pld false 1 (.l x0)
  (.pfa 2 (.t q4)
  (.pld false 1 (.l x0)
  (.pca q304 [(.l x4),(.l x2),(.l x0)]
  (.pex (.l x0) 0
  (.pex (.l x1) 1
  (.sm q50 (.l x1)
  (.sm q2 (.l x0)
  .fin))))))))))))
 (.seq (.regc (.pb .neq (.t q2) (.k (.int .i64 0))
  .fin) (.l x0) (.seq (.reg (.gen ⟨.push,.build [(.int .i64 0),(.int .i64 0),.snil] [],none⟩
  (.st 3 (.t q00) (.l x0)
  (.sm q10 (.t q2)
  .fin))))
 .ret) .skip)
 (.seq (.reg (.pfa 0 (.t q6)
  (.pld false 1 (.l x0)
  (.pca q404 [(.l x0),(.t q50)]
  (.pex (.l x0) 0
  (.pex (.l x1) 1
  (.gen ⟨(.slot q5),.box (.k (.agg [(.int .i64 0),(.int .i64 0),(.int .i64 0),(.int .i64 0)])),none⟩
  (.st 4 (.t q5) (.l x1)
  (.sm q2 (.l x0)
  .fin)))))))))
 (.seq (.regc (.pb .neq (.t q2) (.k (.int .i64 0))
  .fin) (.l x0) (.seq (.reg (.gen ⟨.push,.build [(.int .i64 0),(.int .i64 0),.snil] [],none⟩
  (.st 3 (.t q00) (.l x0)
  (.sm q10 (.t q2)
  .fin))))
 .ret) .skip)
 (.seq (.reg (.gen ⟨.push,.nilc (.t q20),none⟩
  (.pfa 5 (.l x0)
  (.pld false 1 (.l x0)
  (.pln (.l x0)
  (.gen ⟨.push,.mksl 4 64 [(.bool false),.snil,(.bool false),.snil] (.l x0) (.l x0),none⟩
  (.sm q1 (.l x0)
  .fin)))))))
 (.seq (.seq (.reg (.gen ⟨(.slot q3),.len (.t q1),none⟩
  (.sm q (.k (.int .i64 0))
  .fin)))
 (.block 2 (.loop (.seq (.regc (.pb .lss (.t q) (.t q3)
  .fin) (.l x0) .skip (.exit 2))
 (.seq (.block 3 (.seq (.reg (.sm q0 (.t q)
  .fin))
 (.reg (.pca q24 [(.k (.int .i64 0))]
  (.pia 4 (.t q1) (.t q0)
  (.st 4 (.l x0) (.l x1)
  .fin))))))
 (.reg (.pb .add (.t q) (.k (.int .i64 1))
  (.sm q (.l x0)
  .fin))))))))
 (.seq (.regc (.pfa 0 (.t q4)
  (.pld false 1 (.l x0)
  (.pfa 1 (.t q6)
  (.pld false 1 (.l x0)
  (.pb .sub (.l x0) (.k (.int .i64 2))
  (.pb .eql (.l x3) (.l x0)
  .fin)))))) (.l x0) (.reg (.pfa 0 (.t q5)
  (.pld false 1 (.l x0)
  (.pfa 2 (.t q5)
  (.pld false 1 (.l x0)
  (.gen ⟨.push,.build [(.int .i64 0),(.int .i64 0)] [(0,1,(.l x2)),(1,1,(.l x0))],none⟩
  (.pca q504 [(.t q20),(.t q1),(.l x0),(.k (.int .i64 1))]
  .fin))))))) .skip)
 (.seq (.regc (.pfa 0 (.t q4)
  (.pld false 1 (.l x0)
  (.pb .eql (.l x0) (.k (.int .i64 0))
  .fin))) (.l x0) (.reg (.pfa 1 (.t q5)
  (.pld false 1 (.l x0)
  (.pfa 3 (.t q5)
  (.pld false 1 (.l x0)
  (.gen ⟨.push,.build [(.int .i64 0),(.int .i64 0)] [(0,1,(.l x2)),(1,1,(.l x0))],none⟩
  (.pca q504 [(.t q20),(.t q1),(.l x0),(.k (.int .i64 (-1)))]
  .fin))))))) .skip)
 (.reg (.gen ⟨.push,.bsl 1 1 [.snil] [(0,(.t q1))],none⟩
  (.gen ⟨.push,.append 1 24 (.t q30) (.l x0),none⟩
  (.sm q30 (.l x0)
  .fin))))))))))))))))
 (.reg (.pb .add (.t q7) (.k (.int .i64 1))
  (.sm q7 (.l x0)
  .fin))))))))
 (.seq (.reg (.gen ⟨.push,.nilc (.t q20),none⟩
  (.pfa 5 (.l x0)
  (.pld false 1 (.l x0)
  (.pln (.l x0)
  (.pca q161 [(.l x0),(.t q30)]
  (.pex (.l x0) 0
  (.pex (.l x1) 1
  (.st 3 (.t q00) (.l x1)
  (.sm q10 (.l x0)
  .fin))))))))))
 .ret)))))))),[(q00,some (true,3)),(q10,none)],[]⟩
def c192 : CFn := ⟨[some q00,some q10,some q20],(.seq (.reg (.gen ⟨(.slot q1),.box (.k (.agg [(.int .i64 0),(.int .i64 0),.snil])),none⟩
  (.sm q2 (.k (.int .i64 0))
  .fin)))
 (.seq (.regc (.gen ⟨.push,.cmp 1 .eql (.t q00) (.k .pnil),none⟩
  (.gen ⟨.push,.move (.t q10),some ((.l x0),false)⟩
  (.gen ⟨.push,.cmp 1 .eql (.l x0) (.k .pnil),some ((.l x1),false)⟩
  (.gen ⟨.push,.pick (.l x2) (.k (.bool true)) (.l x0),none⟩
  .fin)))) (.l x0) (.seq (.reg (.gen ⟨.push,.build [(.int .i64 0),(.int .i64 0),.snil] [],none⟩
  (.st 3 (.t q1) (.l x0)
  (.sm q2 (.k (.int .i64 1))
  .fin))))
 .ret) .skip)
 (.seq (.reg (.pca q36 [(.t q00)]
  (.pca q36 [(.t q10)]
  (.gen ⟨(.slot q60),.box (.k (.agg [(.int .i64 0),(.int .i64 0),(.int .i64 0)])),none⟩
  (.gen ⟨(.slot q50),.box (.k (.agg [(.int .i64 0),(.int .i64 0),(.int .i64 0)])),none⟩
  (.st 3 (.t q60) (.l x1)
  (.st 3 (.t q50) (.l x0)
  .fin)))))))
 (.seq (.regc (.pfa 0 (.t q50)
  (.pld false 1 (.l x0)
  (.pb .lss (.l x0) (.k (.int .i64 1))
  (.gen ⟨.push,.faddr 0 (.t q60),some ((.l x0),false)⟩
  (.gen ⟨.push,.load false 1 (.l x0),some ((.l x1),false)⟩
  (.gen ⟨.push,.faddr 0 (.t q50),some ((.l x2),false)⟩
  (.gen ⟨.push,.load false 1 (.l x0),some ((.l x3),false)⟩
  (.gen ⟨.push,.bin .rem (.l x2) (.l x0),some ((.l x4),false)⟩
  (.gen ⟨.push,.bin .neq (.l x0) (.k (.int .i64 0)),some ((.l x5),false)⟩
  (.gen ⟨.push,.pick (.l x6) (.k (.bool true)) (.l x0),none⟩
  (.gen ⟨.push,.faddr 1 (.t q60),some ((.l x0),false)⟩
  (.gen ⟨.push,.load false 1 (.l x0),some ((.l x1),false)⟩
  (.gen ⟨.push,.faddr 1 (.t q50),some ((.l x2),false)⟩
  (.gen ⟨.push,.load false 1 (.l x0),some ((.l x3),false)⟩
  (.gen ⟨.push,.bin .neq (.l x2) (.l x0),some ((.l x4),false)⟩
  (.gen ⟨.push,.pick (.l x5) (.k (.bool true)) (.l x0),none⟩
  (.gen ⟨.push,.faddr 2 (.t q60),some ((.l x0),false)⟩
  (.gen ⟨.push,.load false 1 (.l x0),some ((.l x1),false)⟩
  (.gen ⟨.push,.faddr 2 (.t q50),some ((.l x2),false)⟩
  (.gen ⟨.push,.load false 1 (.l x0),some ((.l x3),false)⟩
  (.gen ⟨.push,.bin .neq (.l x2) (.l x0),some ((.l x4),false)⟩
  (.gen ⟨.push,.pick (.l x5) (.k (.bool true)) (.l x0),none⟩
  .fin)))))))))))))))))))))) (.l x0) (.seq (.reg (.gen ⟨.push,.build [(.int .i64 0),(.int .i64 0),.snil] [],none⟩
  (.st 3 (.t q1) (.l x0)
  (.sm q2 (.k (.int .i64 14))
  .fin))))
 .ret) .skip)
 (.seq (.regc (.pb .lss (.t q20) (.k (.int .i64 1))
  (.gen ⟨.push,.faddr 0 (.t q60),some ((.l x0),false)⟩
  (.gen ⟨.push,.load false 1 (.l x0),some ((.l x1),false)⟩
  (.gen ⟨.push,.faddr 0 (.t q50),some ((.l x2),false)⟩
  (.gen ⟨.push,.load false 1 (.l x0),some ((.l x3),false)⟩
  (.gen ⟨.push,.bin .quo (.l x2) (.l x0),some ((.l x4),false)⟩
  (.gen ⟨.push,.move (.t q20),some ((.l x5),false)⟩
  (.gen ⟨.push,.bin .rem (.l x1) (.l x0),some ((.l x6),false)⟩
  (.gen ⟨.push,.bin .neq (.l x0) (.k (.int .i64 0)),some ((.l x7),false)⟩
  (.gen ⟨.push,.pick (.l x8) (.k (.bool true)) (.l x0),none⟩
  .fin)))))))))) (.l x0) (.seq (.reg (.gen ⟨.push,.build [(.int .i64 0),(.int .i64 0),.snil] [],none⟩
  (.st 3 (.t q1) (.l x0)
  (.sm q2 (.k (.int .i64 2))
  .fin))))
 .ret) .skip)
 (.seq (.reg (.pca q27 [(.t q00)]
  (.gen ⟨.push,.mksl 1 24 [.snil] (.k (.int .i64 0)) (.l x0),none⟩
  (.sm q5 (.l x0)
  .fin))))
 (.seq (.seq (.reg (.gen ⟨(.slot q30),.call q651 [(.t q00)],none⟩
  (.gen ⟨(.slot q40),.len (.t q30),none⟩
  (.sm q0 (.k (.int .i64 0))
  .fin))))
 (.block 0 (.loop (.seq (.regc (.pb .lss (.t q0) (.t q40)
  .fin) (.l x0) .skip (.exit 0))
 (.seq (.block 1 (.seq (.reg (.pia 1 (.t q30) (.t q0)
  (.pld false 1 (.l x0)
  (.sm q6 (.l x0)
  .fin))))
 (.seq (.reg (.pca q743 [(.t q00),(.t q6)]
  (.pex (.l x0) 0
  (.pex (.l x1) 1
  (.gen ⟨(.slot q3),.box (.k (.agg [.snil,(.int .i64 0),(.int .i64 0),(.int .i64 0),(.int .i64 0)])),none⟩
  (.st 5 (.t q3) (.l x1)
  (.sm q (.l x0)
  .fin)))))))
 (.seq (.regc (.pb .neq (.t q) (.k (.int .i64 0))
  .fin) (.l x0) (.seq (.reg (.gen ⟨.push,.build [(.int .i64 0),(.int .i64 0),.snil] [],none⟩
  (.st 3 (.t q1) (.l x0)
  (.sm q2 (.t q)
  .fin))))
 .ret) .skip)
 (.seq (.reg (.pld true 5 (.t q3)
  (.gen ⟨.push,.build [(.int .i64 0),(.int .i64 0),(.int .i64 0),(.int .i64 0)] [(0,1,(.t q20)),(3,1,(.k (.int .i64 1)))],none⟩
  (.pca q053 [(.l x1),(.l x0)]
  (.pex (.l x0) 0
  (.pex (.l x1) 1
  (.gen ⟨(.slot q4),.box (.k (.agg [.snil,(.int .i64 0),(.int .i64 0),(.int .i64 0),(.int .i64 0)])),none⟩
  (.st 5 (.t q4) (.l x1)
  (.sm q (.l x0)
  .fin)))))))))
 (.seq (.regc (.pb .neq (.t q) (.k (.int .i64 0))
  .fin) (.l x0) (.seq (.reg (.gen ⟨.push,.build [(.int .i64 0),(.int .i64 0),.snil] [],none⟩
  (.st 3 (.t q1) (.l x0)
  (.sm q2 (.t q)
  .fin))))
 .ret) .skip)
 (.seq (.reg (.pld true 5 (.t q4)
  (.pca q16 [(.t q10),(.l x0)]
  (.pex (.l x0) 0
  (.pex (.l x1) 1
  (.sm q7 (.l x1)
  (.sm q (.l x0)
  .fin)))))))
 (.seq (.regc (.pb .neq (.t q) (.k (.int .i64 0))
  .fin) (.l x0) (.seq (.reg (.gen ⟨.push,.build [(.int .i64 0),(.int .i64 0),.snil] [],none⟩
  (.st 3 (.t q1) (.l x0)
  (.sm q2 (.t q)
  .fin))))
 .ret) .skip)
 (.reg (.gen ⟨.push,.bsl 1 1 [.snil] [(0,(.t q7))],none⟩
  (.gen ⟨.push,.append 1 24 (.t q5) (.l x0),none⟩
  (.sm q5 (.l x0)
  .fin))))))))))))
 (.reg (.pb .add (.t q0) (.k (.int .i64 1))
  (.sm q0 (.l x0)
  .fin))))))))
 (.seq (.reg (.pca q27 [(.t q10)]
  (.pca q161 [(.l x0),(.t q5)]
  (.pex (.l x0) 0
  (.pex (.l x1) 1
  (.st 3 (.t q1) (.l x1)
  (.sm q2 (.l x0)
  .fin)))))))
 .ret)))))))),[(q1,some (true,3)),(q2,none)],[]⟩
def c193 : CFn := ⟨[some q4,some q5,some q6],(.seq (.reg (.gen ⟨(.slot q3),.box (.t q6),none⟩
  (.gen ⟨(.slot q),.box (.k (.agg [(.int .i64 0),(.int .i64 0),.snil])),none⟩
  (.sm q0 (.k (.int .i64 0))
  .fin))))
 (.seq (.reg (.pca q57 [(.t q4),(.t q5)]
  (.pex (.l x0) 0
  (.pex (.l x1) 1
  (.gen ⟨(.slot q1),.box (.k (.agg [(.int .i64 0),(.int .i64 0),.snil])),none⟩
  (.st 3 (.t q1) (.l x1)
  (.sm q2 (.l x0)
  .fin)))))))
 (.seq (.regc (.pb .neq (.t q2) (.k (.int .i64 0))
  .fin) (.l x0) (.seq (.reg (.gen ⟨.push,.build [(.int .i64 0),(.int .i64 0),.snil] [],none⟩
  (.st 3 (.t q) (.l x0)
  (.sm q0 (.t q2)
  .fin))))
 .ret) .skip)
 (.seq (.reg (.pld true 4 (.t q3)
  (.pld true 3 (.t q1)
  (.pca q532 [(.l x1),(.l x0)]
  (.pex (.l x0) 0
  (.pex (.l x1) 1
  (.st 3 (.t q) (.l x1)
  (.sm q0 (.l x0)
  .fin))))))))
 .ret)))),[(q,some (true,3)),(q0,none)],[]⟩
def c194 : CFn := ⟨[some q13,some q23,some q51],(.seq (.reg (.gen ⟨(.slot q1),.box (.t q13),none⟩
  (.gen ⟨(.slot q21),.box (.t q23),none⟩
  (.gen ⟨(.slot q61),.box (.k (.agg [(.int .i64 0),(.int .i64 0),.snil])),none⟩
  (.sm q71 (.k (.int .i64 0))
  .fin)))))
 (.seq (.regc (.pld true 3 (.t q1)
  (.pca q272 [(.l x0)]
  (.gen ⟨.push,.un .not (.l x0),none⟩
  (.gen ⟨.push,.load true 3 (.t q21),some ((.l x0),false)⟩
  (.gen ⟨.push,.call q272 [(.l x0)],some ((.l x1),false)⟩
  (.gen ⟨.push,.un .not (.l x0),some ((.l x2),false)⟩
  (.gen ⟨.push,.pick (.l x3) (.k (.bool true)) (.l x0),none⟩
  (.gen ⟨.push,.faddr 0 (.t q1),some ((.l x0),false)⟩
  (.gen ⟨.push,.load false 1 (.l x0),some ((.l x1),false)⟩
  (.gen ⟨.push,.faddr 0 (.t q21),some ((.l x2),false)⟩
  (.gen ⟨.push,.load false 1 (.l x0),some ((.l x3),false)⟩
  (.gen ⟨.push,.bin .neq (.l x2) (.l x0),some ((.l x4),false)⟩
  (.gen ⟨.push,.pick (.l x5) (.k (.bool true)) (.l x0),none⟩
  (.gen ⟨.push,.faddr 1 (.t q1),some ((.l x0),false)⟩
  (.gen ⟨.push,.load false 1 (.l x0),some ((.l x1),false)⟩
  (.gen ⟨.push,.faddr 1 (.t q21),some ((.l x2),false)⟩
  (.gen ⟨.push,.load false 1 (.l x0),some ((.l x3),false)⟩
  (.gen ⟨.push,.bin .neq (.l x2) (.l x0),some ((.l x4),false)⟩
  (.gen ⟨.push,.pick (.l x5) (.k (.bool true)) (.l x0),none⟩
  .fin))))))))))))))))))) (.l x0) (.seq (.reg (.gen ⟨.push,.build [(.int .i64 0),(.int .i64 0),.snil] [],none⟩
  (.st 3 (.t q61) (.l x0)
  (.sm q71 (.k (.int .i64 4))
  .fin))))
 .ret) .skip)
 (.seq (.regd [(⟨(.slot q12),.faddr 0 (.t q1),none⟩,⟨0,0,0⟩),
  (⟨(.slot q22),.load false 1 (.t q12),none⟩,⟨1,0,0⟩),
  (⟨(.slot q32),.faddr 1 (.t q1),none⟩,⟨0,0,0⟩),
  (⟨(.slot q42),.load false 1 (.t q32),none⟩,⟨1,0,0⟩),
  (⟨(.slot q52),.faddr 2 (.t q1),none⟩,⟨0,0,0⟩),
  (⟨(.slot q62),.load false 1 (.t q52),none⟩,⟨1,0,0⟩),
  (⟨(.slot q02),.len (.t q62),none⟩,⟨0,0,0⟩),
  (⟨(.slot q72),.mksl 4 64 [(.bool false),.snil,(.bool false),.snil] (.t q02) (.t q02),none⟩,⟨2,0,0⟩),
  (⟨(.slot q03),.build [(.int .i64 0),(.int .i64 0),.snil] [(0,1,(.t q22)),(1,1,(.t q42)),(2,1,(.t q72))],none⟩,⟨0,0,0⟩),
  (⟨(.slot q31),.box (.k (.agg [(.int .i64 0),(.int .i64 0),.snil])),none⟩,⟨2,0,0⟩),
  (⟨.drop,.store 3 (.t q31) (.t q03),none⟩,⟨3,0,1⟩)])
 (.seq (.seq (.reg (.pfa 2 (.t q1)
  (.pld false 1 (.l x0)
  (.gen ⟨(.slot q41),.len (.l x0),none⟩
  (.sm q (.k (.int .i64 0))
  .fin)))))
 (.block 0 (.loop (.seq (.regc (.pb .lss (.t q) (.t q41)
  .fin) (.l x0) .skip (.exit 0))
 (.seq (.block 1 (.seq (.reg (.sm q0 (.t q)
  .fin))
 (.regd [(⟨(.slot q2),.faddr 2 (.t q31),none⟩,⟨0,0,1⟩),
  (⟨(.slot q3),.load false 1 (.t q2),none⟩,⟨1,0,1⟩),
  (⟨(.slot q4),.move (.t q0),none⟩,⟨0,0,1⟩),
  (⟨(.slot q5),.move (.t q51),none⟩,⟨0,0,0⟩),
  (⟨(.slot q6),.faddr 2 (.t q1),none⟩,⟨0,0,0⟩),
  (⟨(.slot q7),.load false 1 (.t q6),none⟩,⟨1,0,0⟩),
  (⟨(.slot q00),.move (.t q0),none⟩,⟨0,0,0⟩),
  (⟨(.slot q10),.iaddr 4 (.t q7) (.t q00),none⟩,⟨0,0,0⟩),
  (⟨(.slot q20),.load true 4 (.t q10),none⟩,⟨1,0,0⟩),
  (⟨(.slot q30),.faddr 2 (.t q21),none⟩,⟨0,0,0⟩),
  (⟨(.slot q40),.load false 1 (.t q30),none⟩,⟨1,0,0⟩),
  (⟨(.slot q50),.move (.t q0),none⟩,⟨0,0,0⟩),
  (⟨(.slot q60),.iaddr 4 (.t q40) (.t q50),none⟩,⟨0,0,0⟩),
  (⟨(.slot q70),.load true 4 (.t q60),none⟩,⟨1,0,0⟩),
  (⟨(.slot q01),.callv (.t q5) [(.t q20),(.t q70)],none⟩,⟨3,0,1⟩),
  (⟨(.slot q11),.iaddr 4 (.t q3) (.t q4),none⟩,⟨0,1,1⟩),
  (⟨.drop,.store 4 (.t q11) (.t q01),none⟩,⟨3,1,2⟩)])))
 (.reg (.pb .add (.t q) (.k (.int .i64 1))
  (.sm q (.l x0)
  .fin))))))))
 (.seq (.reg (.pld true 3 (.t q31)
  (.st 3 (.t q61) (.l x0)
  (.sm q71 (.k (.int .i64 0))
  .fin))))
 .ret))))),[(q61,some (true,3)),(q71,none)],[]⟩
def c195 : CFn := ⟨[some q1,some q2,some q3],(.seq (.reg (.gen ⟨(.slot q0),.box (.t q1),none⟩
  (.gen ⟨.push,.box (.t q2),none⟩
  (.gen ⟨(.slot q),.box (.k (.agg [(.bool false),.snil,(.bool false),.snil])),none⟩
  .fin))))
 (.seq (.reg (.pld true 4 (.t q3)
  (.pld true 4 (.t q0)
  (.pca q75 [(.l x1),(.l x0)]
  (.st 4 (.t q) (.l x0)
  .fin)))))
 .ret)),[(q,some (true,4))],[]⟩
def c196 : CFn := ⟨[some q1],(.seq (.reg (.gen ⟨(.slot q),.box (.t q1),none⟩
  (.sm q0 (.k (.int .i64 0))
  .fin)))
 (.seq (.regc (.pld true 3 (.t q)
  (.pca q272 [(.l x0)]
  (.gen ⟨.push,.un .not (.l x0),none⟩
  (.gen ⟨.push,.faddr 0 (.t q),some ((.l x0),false)⟩
  (.gen ⟨.push,.load false 1 (.l x0),some ((.l x1),false)⟩
  (.gen ⟨.push,.faddr 1 (.t q),some ((.l x2),false)⟩
  (.gen ⟨.push,.load false 1 (.l x0),some ((.l x3),false)⟩
  (.gen ⟨.push,.bin .neq (.l x2) (.l x0),some ((.l x4),false)⟩
  (.gen ⟨.push,.pick (.l x5) (.k (.bool true)) (.l x0),none⟩
  .fin))))))))) (.l x0) (.seq (.reg (.sm q0 (.k (.int .i64 4))
  .fin))
 .ret) .skip)
 (.seq (.regc (.pfa 0 (.t q)
  (.pld false 1 (.l x0)
  (.pb .gtr (.l x0) (.k (.int .i64 64))
  .fin))) (.l x0) (.seq (.reg (.sm q0 (.k (.int .i64 7))
  .fin))
 .ret) .skip)
 (.seq (.reg (.sm q0 (.k (.int .i64 0))
  .fin))
 .ret)))),[(q0,none)],[]⟩
def c197 : CFn := ⟨[some q41],(.seq (.reg (.gen ⟨(.slot q11),.box (.t q41),none⟩
  (.sm q31 (.k .snil)
  .fin)))
 (.seq (.reg (.pfa 0 (.t q11)
  (.pld false 1 (.l x0)
  (.gen ⟨.push,.mksl 1 24 [.snil] (.l x0) (.l x0),none⟩
  (.sm q2 (.l x0)
  .fin)))))
 (.seq (.seq (.reg (.gen ⟨(.slot q21),.len (.t q2),none⟩
  (.sm q01 (.k (.int .i64 0))
  .fin)))
 (.block 0 (.loop (.seq (.regc (.pb .lss (.t q01) (.t q21)
  .fin) (.l x0) .skip (.exit 0))
 (.seq (.block 1 (.seq (.reg (.sm q1 (.t q01)
  .fin))
 (.seq (.reg (.pfa 2 (.t q11)
  (.pld false 1 (.l x0)
  (.pfa 1 (.t q11)
  (.pld false 1 (.l x0)
  (.pb .mul (.t q1) (.l x0)
  (.pb .add (.t q1) (.k (.int .i64 1))
  (.pfa 1 (.t q11)
  (.pld false 1 (.l x0)
  (.pb .mul (.l x2) (.l x0)
  (.gen ⟨(.slot q60),.slc 4 (.l x7) (some (.l x4)) (some (.l x0)),none⟩
  (.gen ⟨(.slot q70),.len (.t q60),none⟩
  (.sm q (.k (.int .i64 0))
  .fin)))))))))))))
 (.block 2 (.loop (.seq (.regc (.pb .lss (.t q) (.t q70)
  .fin) (.l x0) .skip (.exit 2))
 (.seq (.block 3 (.seq (.reg (.pia 4 (.t q60) (.t q)
  (.pld true 4 (.l x0)
  (.gen ⟨(.slot q0),.box (.k (.agg [(.bool false),.snil,(.bool false),.snil])),none⟩
  (.st 4 (.t q0) (.l x0)
  .fin)))))
 (.regd [(⟨(.slot q3),.move (.t q2),none⟩,⟨0,0,2⟩),
  (⟨(.slot q4),.move (.t q1),none⟩,⟨0,0,2⟩),
  (⟨(.slot q5),.move (.t q2),none⟩,⟨0,0,1⟩),
  (⟨(.slot q6),.move (.t q1),none⟩,⟨0,0,1⟩),
  (⟨(.slot q7),.iaddr 1 (.t q5) (.t q6),none⟩,⟨0,0,1⟩),
  (⟨(.slot q00),.load false 1 (.t q7),none⟩,⟨1,0,1⟩),
  (⟨(.slot q10),.load true 4 (.t q0),none⟩,⟨1,0,0⟩),
  (⟨(.slot q20),.call q77 [(.t q10)],none⟩,⟨3,0,1⟩),
  (⟨(.slot q30),.bsl 4 1 [(.bool false),.snil,(.bool false),.snil] [(0,(.t q20))],none⟩,⟨2,1,1⟩),
  (⟨(.slot q40),.append 4 64 (.t q00) (.t q30),none⟩,⟨3,1,2⟩),
  (⟨(.slot q50),.iaddr 1 (.t q3) (.t q4),none⟩,⟨0,2,2⟩),
  (⟨.drop,.store 1 (.t q50) (.t q40),none⟩,⟨3,2,3⟩)])))
 (.reg (.pb .add (.t q) (.k (.int .i64 1))
  (.sm q (.l x0)
  .fin))))))))))
 (.reg (.pb .add (.t q01) (.k (.int .i64 1))
  (.sm q01 (.l x0)
  .fin))))))))
 (.seq (.reg (.sm q31 (.t q2)
  .fin))
 .ret)))),[(q31,none)],[]⟩
def c198 : CFn := ⟨[some q],(.seq (.reg (.sm q4 (.k (.int .i64 1))
  .fin))
 (.block 0 (.loop (.seq (.regc (.pb .add (.t q4) (.k (.int .i64 1))
  (.pln (.t q)
  (.pb .lss (.l x1) (.l x0)
  .fin))) (.l x0) .skip (.exit 0))
 (.seq (.block 1 (.seq (.reg (.sm q75 (.t q4)
  .fin))
 (.seq (.block 2 (.loop (.seq (.regc (.pln (.t q)
  (.pb .lss (.t q75) (.l x0)
  (.gen ⟨.push,.move (.t q),some ((.l x0),true)⟩
  (.gen ⟨.push,.move (.t q75),some ((.l x1),true)⟩
  (.gen ⟨.push,.iaddr 1 (.l x1) (.l x0),some ((.l x2),true)⟩
  (.gen ⟨.push,.load false 1 (.l x0),some ((.l x3),true)⟩
  (.gen ⟨.push,.move (.t q4),some ((.l x4),true)⟩
  (.gen ⟨.push,.bin .sub (.l x0) (.k (.int .i64 1)),some ((.l x5),true)⟩
  (.gen ⟨.push,.iaddr 4 (.l x2) (.l x0),some ((.l x6),true)⟩
  (.gen ⟨.push,.load true 4 (.l x0),some ((.l x7),true)⟩
  (.gen ⟨.push,.call q213 [(.l x0)],some ((.l x8),true)⟩
  (.gen ⟨.push,.un .not (.l x0),some ((.l x9),true)⟩
  (.gen ⟨.push,.pick (.l x10) (.l x0) (.k (.bool false)),none⟩
  .fin))))))))))))) (.l x0) .skip (.exit 2))
 (.block 3 (.reg (.pb .add (.t q75) (.k (.int .i64 1))
  (.sm q75 (.l x0)
  .fin)))))))
 (.seq (.regc (.pln (.t q)
  (.pb .eql (.t q75) (.l x0)
  .fin)) (.l x0) (.exit 1) .skip)
 (.seq (.regc (.pb .neq (.t q75) (.t q4)
  .fin) (.l x0) (.reg (.pca q604 [(.t q),(.t q75),(.t q4)]
  .fin)) .skip)
 (.seq (.reg (.pb .add (.t q4) (.k (.int .i64 1))
  (.sm q5 (.l x0)
  .fin)))
 (.block 4 (.loop (.seq (.regc (.pln (.t q)
  (.pb .lss (.t q5) (.l x0)
  .fin)) (.l x0) .skip (.exit 4))
 (.seq (.block 5 (.seq (.regc (.pia 1 (.t q) (.t q5)
  (.pld false 1 (.l x0)
  (.pb .sub (.t q4) (.k (.int .i64 1))
  (.pia 4 (.l x1) (.l x0)
  (.pld true 4 (.l x0)
  (.pca q213 [(.l x0)]
  (.gen ⟨.push,.un .not (.l x0),none⟩
  .fin))))))) (.l x0) (.exit 5) .skip)
 (.seq (.regd [(⟨(.slot q16),.move (.t q),none⟩,⟨0,0,0⟩),
  (⟨(.slot q26),.move (.t q5),none⟩,⟨0,0,0⟩),
  (⟨(.slot q36),.iaddr 1 (.t q16) (.t q26),none⟩,⟨0,0,0⟩),
  (⟨(.slot q46),.load false 1 (.t q36),none⟩,⟨1,0,0⟩),
  (⟨(.slot q56),.move (.t q4),none⟩,⟨0,0,0⟩),
  (⟨(.slot q66),.bin .sub (.t q56) (.k (.int .i64 1)),none⟩,⟨0,0,0⟩),
  (⟨(.slot q76),.iaddr 4 (.t q46) (.t q66),none⟩,⟨0,0,0⟩),
  (⟨(.slot q07),.load true 4 (.t q76),none⟩,⟨1,0,0⟩),
  (⟨(.slot q17),.move (.t q),none⟩,⟨0,0,0⟩),
  (⟨(.slot q27),.move (.t q4),none⟩,⟨0,0,0⟩),
  (⟨(.slot q37),.iaddr 1 (.t q17) (.t q27),none⟩,⟨0,0,0⟩),
  (⟨(.slot q47),.load false 1 (.t q37),none⟩,⟨1,0,0⟩),
  (⟨(.slot q57),.move (.t q4),none⟩,⟨0,0,0⟩),
  (⟨(.slot q67),.bin .sub (.t q57) (.k (.int .i64 1)),none⟩,⟨0,0,0⟩),
  (⟨(.slot q77),.iaddr 4 (.t q47) (.t q67),none⟩,⟨0,0,0⟩),
  (⟨(.slot q000),.load true 4 (.t q77),none⟩,⟨1,0,0⟩),
  (⟨(.slot q100),.call q671 [(.t q07),(.t q000)],none⟩,⟨3,0,1⟩),
  (⟨(.slot q06),.move (.t q100),none⟩,⟨0,1,1⟩),
  (⟨(.slot q200),.extract (.t q06) 0,none⟩,⟨0,1,1⟩),
  (⟨(.slot q300),.extract (.t q06) 1,none⟩,⟨0,1,2⟩),
  (⟨(.slot q6),.box (.k (.agg [(.bool false),.snil,(.bool false),.snil])),none⟩,⟨2,0,1⟩),
  (⟨.drop,.store 4 (.t q6) (.t q200),none⟩,⟨3,1,2⟩),
  (⟨.drop,.move (.t q300),none⟩,⟨0,2,2⟩)])
 (.seq (.seq (.reg (.gen ⟨(.slot q55),.len (.t q),none⟩
  (.sm q0 (.k (.int .i64 0))
  .fin)))
 (.block 6 (.loop (.seq (.regc (.pb .lss (.t q0) (.t q55)
  .fin) (.l x0) .skip (.exit 6))
 (.seq (.block 7 (.seq (.reg (.sm q2 (.t q0)
  .fin))
 (.regd [(⟨(.slot q7),.move (.t q),none⟩,⟨0,0,2⟩),
  (⟨(.slot q00),.move (.t q5),none⟩,⟨0,0,2⟩),
  (⟨(.slot q10),.iaddr 1 (.t q7) (.t q00),none⟩,⟨0,0,2⟩),
  (⟨(.slot q20),.load false 1 (.t q10),none⟩,⟨1,0,2⟩),
  (⟨(.slot q30),.move (.t q2),none⟩,⟨0,0,2⟩),
  (⟨(.slot q40),.move (.t q),none⟩,⟨0,0,1⟩),
  (⟨(.slot q50),.move (.t q5),none⟩,⟨0,0,1⟩),
  (⟨(.slot q60),.iaddr 1 (.t q40) (.t q50),none⟩,⟨0,0,1⟩),
  (⟨(.slot q70),.load false 1 (.t q60),none⟩,⟨1,0,1⟩),
  (⟨(.slot q01),.move (.t q2),none⟩,⟨0,0,1⟩),
  (⟨(.slot q11),.iaddr 4 (.t q70) (.t q01),none⟩,⟨0,0,1⟩),
  (⟨(.slot q21),.load true 4 (.t q11),none⟩,⟨1,0,1⟩),
  (⟨(.slot q31),.load true 4 (.t q6),none⟩,⟨1,0,0⟩),
  (⟨(.slot q41),.move (.t q),none⟩,⟨0,0,0⟩),
  (⟨(.slot q51),.move (.t q4),none⟩,⟨0,0,0⟩),
  (⟨(.slot q61),.iaddr 1 (.t q41) (.t q51),none⟩,⟨0,0,0⟩),
  (⟨(.slot q71),.load false 1 (.t q61),none⟩,⟨1,0,0⟩),
  (⟨(.slot q02),.move (.t q2),none⟩,⟨0,0,0⟩),
  (⟨(.slot q12),.iaddr 4 (.t q71) (.t q02),none⟩,⟨0,0,0⟩),
  (⟨(.slot q22),.load true 4 (.t q12),none⟩,⟨1,0,0⟩),
  (⟨(.slot q32),.call q75 [(.t q31),(.t q22)],none⟩,⟨3,0,1⟩),
  (⟨(.slot q42),.call q261 [(.t q21),(.t q32)],none⟩,⟨3,1,2⟩),
  (⟨(.slot q52),.iaddr 4 (.t q20) (.t q30),none⟩,⟨0,2,2⟩),
  (⟨.drop,.store 4 (.t q52) (.t q42),none⟩,⟨3,2,3⟩)])))
 (.reg (.pb .add (.t q0) (.k (.int .i64 1))
  (.sm q0 (.l x0)
  .fin))))))))
 (.seq (.reg (.gen ⟨(.slot q65),.len (.t q),none⟩
  (.sm q1 (.k (.int .i64 0))
  .fin)))
 (.block 8 (.loop (.seq (.regc (.pb .lss (.t q1) (.t q65)
  .fin) (.l x0) .skip (.exit 8))
 (.seq (.block 9 (.seq (.reg (.sm q3 (.t q1)
  .fin))
 (.regd [(⟨(.slot q62),.move (.t q),none⟩,⟨0,0,2⟩),
  (⟨(.slot q72),.move (.t q3),none⟩,⟨0,0,2⟩),
  (⟨(.slot q03),.iaddr 1 (.t q62) (.t q72),none⟩,⟨0,0,2⟩),
  (⟨(.slot q13),.load false 1 (.t q03),none⟩,⟨1,0,2⟩),
  (⟨(.slot q23),.move (.t q4),none⟩,⟨0,0,2⟩),
  (⟨(.slot q33),.move (.t q),none⟩,⟨0,0,1⟩),
  (⟨(.slot q43),.move (.t q3),none⟩,⟨0,0,1⟩),
  (⟨(.slot q53),.iaddr 1 (.t q33) (.t q43),none⟩,⟨0,0,1⟩),
  (⟨(.slot q63),.load false 1 (.t q53),none⟩,⟨1,0,1⟩),
  (⟨(.slot q73),.move (.t q4),none⟩,⟨0,0,1⟩),
  (⟨(.slot q04),.iaddr 4 (.t q63) (.t q73),none⟩,⟨0,0,1⟩),
  (⟨(.slot q14),.load true 4 (.t q04),none⟩,⟨1,0,1⟩),
  (⟨(.slot q24),.load true 4 (.t q6),none⟩,⟨1,0,0⟩),
  (⟨(.slot q34),.move (.t q),none⟩,⟨0,0,0⟩),
  (⟨(.slot q44),.move (.t q3),none⟩,⟨0,0,0⟩),
  (⟨(.slot q54),.iaddr 1 (.t q34) (.t q44),none⟩,⟨0,0,0⟩),
  (⟨(.slot q64),.load false 1 (.t q54),none⟩,⟨1,0,0⟩),
  (⟨(.slot q74),.move (.t q5),none⟩,⟨0,0,0⟩),
  (⟨(.slot q05),.iaddr 4 (.t q64) (.t q74),none⟩,⟨0,0,0⟩),
  (⟨(.slot q15),.load true 4 (.t q05),none⟩,⟨1,0,0⟩),
  (⟨(.slot q25),.call q75 [(.t q24),(.t q15)],none⟩,⟨3,0,1⟩),
  (⟨(.slot q35),.call q26 [(.t q14),(.t q25)],none⟩,⟨3,1,2⟩),
  (⟨(.slot q45),.iaddr 4 (.t q13) (.t q23),none⟩,⟨0,2,2⟩),
  (⟨.drop,.store 4 (.t q45) (.t q35),none⟩,⟨3,2,3⟩)])))
 (.reg (.pb .add (.t q1) (.k (.int .i64 1))
  (.sm q1 (.l x0)
  .fin))))))))))))
 (.reg (.pb .add (.t q5) (.k (.int .i64 1))
  (.sm q5 (.l x0)
  .fin)))))))))))))
 (.reg (.pb .add (.t q4) (.k (.int .i64 1))
  (.sm q4 (.l x0)
  .fin)))))))),[],[]⟩
def c199 : CFn := ⟨[],(.seq (.reg (.sm q (.k .snil)
  .fin))
 (.seq (.reg (.pca q24 [(.k (.int .i64 1))]
  (.gen ⟨.push,.bsl 4 1 [(.bool false),.snil,(.bool false),.snil] [(0,(.l x0))],none⟩
  (.sm q (.l x0)
  .fin))))
 .ret)),[(q,none)],[]⟩
def c200 : CFn := ⟨[some q0],(.seq (.reg (.sm q (.k .snil)
  .fin))
 (.seq (.reg (.pca q24 [(.k (.int .i64 0))]
  (.gen ⟨.push,.bsl 4 1 [(.bool false),.snil,(.bool false),.snil] [(0,(.l x0))],none⟩
  (.gen ⟨.push,.append 4 64 (.l x0) (.t q0),none⟩
  (.pca q313 [(.l x0)]
  (.sm q (.l x0)
  .fin))))))
 .ret)),[(q,none)],[]⟩
def c201 : CFn := ⟨[some q1,some q2],(.seq (.reg (.gen ⟨(.slot q0),.box (.t q2),none⟩
  (.sm q (.k .snil)
  .fin)))
 (.seq (.reg (.gen ⟨.push,.mkfn q704 [(.t q0)],none⟩
  (.pca q343 [(.t q1),(.k .snil),(.l x0)]
  (.sm q (.l x0)
  .fin))))
 .ret)),[(q,none)],[]⟩
def c203 : CFn := ⟨[some q6],(.seq (.reg (.sm q5 (.k .snil)
  .fin))
 (.seq (.reg (.pln (.t q6)
  (.gen ⟨.push,.mksl 4 64 [(.bool false),.snil,(.bool false),.snil] (.l x0) (.l x0),none⟩
  (.sm q2 (.l x0)
  .fin))))
 (.seq (.seq (.reg (.sm q3 (.t q6)
  (.gen ⟨(.slot q4),.len (.t q3),none⟩
  (.sm q (.k (.int .i64 0))
  .fin))))
 (.block 0 (.loop (.seq (.regc (.pb .lss (.t q) (.t q4)
  .fin) (.l x0) .skip (.exit 0))
 (.seq (.block 1 (.seq (.reg (.gen ⟨.push,.move (.t q),none⟩
  (.pia 4 (.t q3) (.t q)
  (.pld true 4 (.l x0)
  (.gen ⟨(.slot q0),.box (.k (.agg [(.bool false),.snil,(.bool false),.snil])),none⟩
  (.sm q1 (.l x2)
  (.st 4 (.t q0) (.l x0)
  .fin)))))))
 (.reg (.pld true 4 (.t q0)
  (.pca q77 [(.l x0)]
  (.pia 4 (.t q2) (.t q1)
  (.st 4 (.l x0) (.l x1)
  .fin)))))))
 (.reg (.pb .add (.t q) (.k (.int .i64 1))
  (.sm q (.l x0)
  .fin))))))))
 (.seq (.reg (.pca q623 [(.t q2)]
  (.sm q5 (.l x0)
  .fin)))
 .ret)))),[(q5,none)],[]⟩
def c204 : CFn := ⟨[some q6],(.seq (.reg (.sm q7 (.k .snil)
  .fin))
 (.seq (.reg (.pca q63 [(.t q6)]
  (.sm q6 (.l x0)
  .fin)))
 (.seq (.reg (.pca q014 [(.t q6)]
  (.gen ⟨(.slot q2),.box (.k (.agg [(.bool false),.snil])),none⟩
  (.st 2 (.t q2) (.l x0)
  .fin))))
 (.seq (.regc (.pln (.t q6)
  (.pb .gtr (.l x0) (.k (.int .i64 0))
  (.gen ⟨.push,.move (.t q6),some ((.l x0),true)⟩
  (.gen ⟨.push,.move (.t q6),some ((.l x1),true)⟩
  (.gen ⟨.push,.len (.l x0),some ((.l x2),true)⟩
  (.gen ⟨.push,.bin .sub (.l x0) (.k (.int .i64 1)),some ((.l x3),true)⟩
  (.gen ⟨.push,.iaddr 2 (.l x3) (.l x0),some ((.l x4),true)⟩
  (.gen ⟨.push,.faddr 0 (.l x0),some ((.l x5),true)⟩
  (.gen ⟨.push,.load false 1 (.l x0),some ((.l x6),true)⟩
  (.gen ⟨.push,.pick (.l x7) (.l x0) (.k (.bool false)),none⟩
  .fin)))))))))) (.l x0) (.reg (.pld true 2 (.t q2)
  (.pca q142 [(.l x0)]
  (.st 2 (.t q2) (.l x0)
  .fin)))) .skip)
 (.seq (.reg (.pln (.t q6)
  (.gen ⟨.push,.mksl 2 32 [(.bool false),.snil] (.l x0) (.l x0),none⟩
  (.sm q3 (.l x0)
  .fin))))
 (.seq (.seq (.reg (.sm q4 (.t q6)
  (.gen ⟨(.slot q5),.len (.t q4),none⟩
  (.sm q (.k (.int .i64 0))
  .fin))))
 (.block 0 (.loop (.seq (.regc (.pb .lss (.t q) (.t q5)
  .fin) (.l x0) .skip (.exit 0))
 (.seq (.block 1 (.seq (.reg (.gen ⟨.push,.move (.t q),none⟩
  (.pia 2 (.t q4) (.t q)
  (.pld true 2 (.l x0)
  (.gen ⟨(.slot q0),.box (.k (.agg [(.bool false),.snil])),none⟩
  (.sm q1 (.l x2)
  (.st 2 (.t q0) (.l x0)
  .fin)))))))
 (.reg (.pld true 2 (.t q0)
  (.pld true 2 (.t q2)
  (.pca q342 [(.l x1),(.l x0)]
  (.pex (.l x0) 0
  (.pex (.l x1) 1
  (.pia 2 (.t q3) (.t q1)
  (.st 2 (.l x0) (.l x2)
  .fin))))))))))
 (.reg (.pb .add (.t q) (.k (.int .i64 1))
  (.sm q (.l x0)
  .fin))))))))
 (.seq (.reg (.sm q7 (.t q3)
  .fin))
 .ret))))))),[(q7,none)],[]⟩
def c205 : CFn := ⟨[some q0],(.seq (.reg (.gen ⟨(.slot q),.box (.k (.agg [(.bool false),.snil])),none⟩
  .fin))
 (.seq (.reg (.pln (.t q0)
  (.pb .sub (.l x0) (.k (.int .i64 1))
  (.pia 2 (.t q0) (.l x0)
  (.pld true 2 (.l x0)
  (.st 2 (.t q) (.l x0)
  .fin))))))
 .ret)),[(q,some (true,2))],[]⟩
def c206 : CFn := ⟨[some q0,some q],(.seq (.reg (.sm q2 (.k .snil)
  .fin))
 (.seq (.reg (.pca q014 [(.t q0)]
  (.pca q014 [(.t q)]
  (.pca q242 [(.l x1),(.l x0)]
  (.gen ⟨(.slot q3),.box (.k (.agg [(.bool false),.snil])),none⟩
  (.st 2 (.t q3) (.l x0)
  .fin))))))
 (.seq (.reg (.pca q413 [(.t q0)]
  (.pca q413 [(.t q)]
  (.sm q0 (.l x1)
  (.sm q (.l x0)
  .fin)))))
 (.seq (.block 0 (.loop (.seq (.regc (.pln (.t q)
  (.pb .gtr (.l x0) (.k (.int .i64 0))
  .fin)) (.l x0) .skip (.exit 0))
 (.block 1 (.seq (.reg (.pca q114 [(.t q0),(.t q)]
  (.pex (.l x0) 0
  (.pex (.l x1) 1
  (.pex (.l x2) 2
  (.sm q1 (.l x1)
  .fin))))))
 (.reg (.pca q413 [(.t q1)]
  (.sm q0 (.t q)
  (.sm q (.l x0)
  .fin)))))))))
 (.seq (.reg (.pld true 2 (.t q3)
  (.pca q214 [(.t q0),(.l x0)]
  (.sm q2 (.l x0)
  .fin))))
 .ret))))),[(q2,none)],[]⟩
def c207 : CFn := ⟨[some q1],(.seq (.reg (.sm q40 (.k .snil)
  .fin))
 (.seq (.reg (.sm q0 (.k .snil)
  .fin))
 (.seq (.seq (.reg (.sm q (.k (.int .i64 1))
  .fin))
 (.block 0 (.loop (.seq (.regc (.pln (.t q1)
  (.pb .lss (.t q) (.l x0)
  .fin)) (.l x0) .skip (.exit 0))
 (.seq (.block 1 (.regd [(⟨(.slot q2),.move (.t q0),none⟩,⟨0,0,2⟩),
  (⟨(.slot q3),.move (.t q),none⟩,⟨0,0,0⟩),
  (⟨(.slot q4),.call q211 [(.t q3)],none⟩,⟨3,0,1⟩),
  (⟨(.slot q5),.move (.t q1),none⟩,⟨0,0,1⟩),
  (⟨(.slot q6),.move (.t q),none⟩,⟨0,0,1⟩),
  (⟨(.slot q7),.iaddr 2 (.t q5) (.t q6),none⟩,⟨0,0,1⟩),
  (⟨(.slot q00),.load true 2 (.t q7),none⟩,⟨1,0,1⟩),
  (⟨(.slot q10),.call q431 [(.t q4),(.t q00)],none⟩,⟨3,1,2⟩),
  (⟨(.slot q20),.bsl 2 1 [(.bool false),.snil] [(0,(.t q10))],none⟩,⟨2,2,2⟩),
  (⟨(.slot q30),.append 2 32 (.t q2) (.t q20),none⟩,⟨3,2,3⟩),
  (⟨(.slot q0),.move (.t q30),none⟩,⟨0,3,3⟩)]))
 (.reg (.pb .add (.t q) (.k (.int .i64 1))
  (.sm q (.l x0)
  .fin))))))))
 (.seq (.reg (.pca q401 [(.t q0)]
  (.sm q40 (.l x0)
  .fin)))
 .ret)))),[(q40,none)],[]⟩
def c208 : CFn := ⟨[some q14,some q61],(.seq (.reg (.sm q63 (.k .snil)
  (.sm q73 (.k (.int .i64 0))
  .fin)))
 (.seq (.reg (.pca q63 [(.t q14)]
  (.pca q63 [(.t q61)]
  (.sm q3 (.l x1)
  (.sm q61 (.l x0)
  .fin)))))
 (.seq (.regc (.pln (.t q61)
  (.pb .eql (.l x0) (.k (.int .i64 0))
  .fin)) (.l x0) (.seq (.reg (.sm q63 (.k .snil)
  (.sm q73 (.k (.int .i64 5))
  .fin)))
 .ret) .skip)
 (.seq (.reg (.pln (.t q3)
  (.pln (.t q61)
  (.pb .sub (.l x1) (.l x0)
  (.pb .add (.l x0) (.k (.int .i64 1))
  (.gen ⟨.push,.max [(.l x0),(.k (.int .i64 0))],none⟩
  (.gen ⟨.push,.mksl 2 32 [(.bool false),.snil] (.l x0) (.l x0),none⟩
  (.sm q04 (.l x0)
  .fin))))))))
 (.seq (.seq (.reg (.pln (.t q04)
  (.pb .sub (.l x0) (.k (.int .i64 1))
  (.sm q2 (.l x0)
  .fin))))
 (.block 0 (.loop (.seq (.regc (.pb .geq (.t q2) (.k (.int .i64 0))
  .fin) (.l x0) .skip (.exit 0))
 (.seq (.block 1 (.seq (.regd [(⟨(.slot q12),.move (.t q3),none⟩,⟨0,0,1⟩),
  (⟨(.slot q22),.move (.t q2),none⟩,⟨0,0,1⟩),
  (⟨(.slot q32),.move (.t q61),none⟩,⟨0,0,1⟩),
  (⟨(.slot q42),.len (.t q32),none⟩,⟨0,0,1⟩),
  (⟨(.slot q52),.bin .add (.t q22) (.t q42),none⟩,⟨0,0,1⟩),
  (⟨(.slot q62),.bin .sub (.t q52) (.k (.int .i64 1)),none⟩,⟨0,0,1⟩),
  (⟨(.slot q72),.iaddr 2 (.t q12) (.t q62),none⟩,⟨0,0,1⟩),
  (⟨(.slot q03),.load true 2 (.t q72),none⟩,⟨1,0,1⟩),
  (⟨(.slot q13),.move (.t q61),none⟩,⟨0,0,0⟩),
  (⟨(.slot q23),.call q513 [(.t q13)],none⟩,⟨3,0,1⟩),
  (⟨(.slot q33),.call q342 [(.t q03),(.t q23)],none⟩,⟨3,1,2⟩),
  (⟨(.slot q71),.move (.t q33),none⟩,⟨0,2,2⟩),
  (⟨(.slot q43),.extract (.t q71) 0,none⟩,⟨0,2,2⟩),
  (⟨(.slot q53),.extract (.t q71) 1,none⟩,⟨0,2,3⟩),
  (⟨(.slot q31),.box (.k (.agg [(.bool false),.snil])),none⟩,⟨2,0,2⟩),
  (⟨.drop,.store 2 (.t q31) (.t q43),none⟩,⟨3,2,3⟩),
  (⟨(.slot q02),.move (.t q53),none⟩,⟨0,3,3⟩)])
 (.seq (.regc (.pb .neq (.t q02) (.k (.int .i64 0))
  .fin) (.l x0) (.seq (.reg (.sm q63 (.k .snil)
  (.sm q73 (.k (.int .i64 6))
  .fin)))
 .ret) .skip)
 (.seq (.reg (.pld true 2 (.t q31)
  (.pia 2 (.t q04) (.t q2)
  (.st 2 (.l x0) (.l x1)
  .fin))))
 (.seq (.reg (.sm q41 (.t q61)
  (.gen ⟨(.slot q51),.len (.t q41),none⟩
  (.sm q (.k (.int .i64 0))
  .fin))))
 (.block 2 (.loop (.seq (.regc (.pb .lss (.t q) (.t q51)
  .fin) (.l x0) .skip (.exit 2))
 (.seq (.block 3 (.seq (.reg (.gen ⟨.push,.move (.t q),none⟩
  (.pia 2 (.t q41) (.t q)
  (.pld true 2 (.l x0)
  (.gen ⟨(.slot q1),.box (.k (.agg [(.bool false),.snil])),none⟩
  (.sm q0 (.l x2)
  (.st 2 (.t q1) (.l x0)
  .fin)))))))
 (.regd [(⟨(.slot q4),.move (.t q3),none⟩,⟨0,0,2⟩),
  (⟨(.slot q5),.move (.t q2),none⟩,⟨0,0,2⟩),
  (⟨(.slot q6),.move (.t q0),none⟩,⟨0,0,2⟩),
  (⟨(.slot q7),.bin .add (.t q5) (.t q6),none⟩,⟨0,0,2⟩),
  (⟨(.slot q00),.move (.t q3),none⟩,⟨0,0,1⟩),
  (⟨(.slot q10),.move (.t q2),none⟩,⟨0,0,1⟩),
  (⟨(.slot q20),.move (.t q0),none⟩,⟨0,0,1⟩),
  (⟨(.slot q30),.bin .add (.t q10) (.t q20),none⟩,⟨0,0,1⟩),
  (⟨(.slot q40),.iaddr 2 (.t q00) (.t q30),none⟩,⟨0,0,1⟩),
  (⟨(.slot q50),.load true 2 (.t q40),none⟩,⟨1,0,1⟩),
  (⟨(.slot q60),.load true 2 (.t q31),none⟩,⟨1,0,0⟩),
  (⟨(.slot q70),.load true 2 (.t q1),none⟩,⟨1,0,0⟩),
  (⟨(.slot q01),.call q431 [(.t q60),(.t q70)],none⟩,⟨3,0,1⟩),
  (⟨(.slot q11),.call q314 [(.t q50),(.t q01)],none⟩,⟨3,1,2⟩),
  (⟨(.slot q21),.iaddr 2 (.t q4) (.t q7),none⟩,⟨0,2,2⟩),
  (⟨.drop,.store 2 (.t q21) (.t q11),none⟩,⟨3,2,3⟩)])))
 (.reg (.pb .add (.t q) (.k (.int .i64 1))
  (.sm q (.l x0)
  .fin))))))))))))
 (.reg (.pb .sub (.t q2) (.k (.int .i64 1))
  (.sm q2 (.l x0)
  .fin))))))))
 (.seq (.regc (.pca q401 [(.t q3)]
  (.pln (.l x0)
  (.pb .gtr (.l x0) (.k (.int .i64 0))
  .fin))) (.l x0) (.seq (.reg (.sm q63 (.k .snil)
  (.sm q73 (.k (.int .i64 6))
  .fin)))
 .ret) .skip)
 (.seq (.reg (.pca q401 [(.t q04)]
  (.sm q63 (.l x0)
  (.sm q73 (.k (.int .i64 0))
  .fin))))
 .ret))))))),[(q63,none),(q73,none)],[]⟩
def c209 : CFn := ⟨[some q5],(.seq (.reg (.sm q1 (.k .snil)
  (.sm q2 (.k (.int .i64 0))
  .fin)))
 (.seq (.reg (.pca q63 [(.t q5)]
  (.sm q5 (.l x0)
  .fin)))
 (.seq (.regc (.pln (.t q5)
  (.pb .eql (.l x0) (.k (.int .i64 0))
  .fin)) (.l x0) (.seq (.reg (.sm q1 (.k .snil)
  (.sm q2 (.k (.int .i64 5))
  .fin)))
 .ret) .skip)
 (.seq (.regc (.pln (.t q5)
  (.pb .sub (.l x0) (.k (.int .i64 1))
  (.pb .gtr (.l x0) (.k (.int .i64 32))
  .fin))) (.l x0) (.seq (.reg (.sm q1 (.k .snil)
  (.sm q2 (.k (.int .i64 7))
  .fin)))
 .ret) .skip)
 (.seq (.seq (.reg (.sm q3 (.t q5)
  (.gen ⟨(.slot q4),.len (.t q3),none⟩
  (.sm q (.k (.int .i64 0))
  .fin))))
 (.block 0 (.loop (.seq (.regc (.pb .lss (.t q) (.t q4)
  .fin) (.l x0) .skip (.exit 0))
 (.seq (.block 1 (.seq (.reg (.pia 2 (.t q3) (.t q)
  (.pld true 2 (.l x0)
  (.gen ⟨(.slot q0),.box (.k (.agg [(.bool false),.snil])),none⟩
  (.st 2 (.t q0) (.l x0)
  .fin)))))
 (.regc (.pld true 2 (.t q0)
  (.pca q143 [(.l x0)]
  (.pb .gtr (.l x0) (.k (.int .i64 4096))
  .fin))) (.l x0) (.seq (.reg (.sm q1 (.k .snil)
  (.sm q2 (.k (.int .i64 7))
  .fin)))
 .ret) .skip)))
 (.reg (.pb .add (.t q) (.k (.int .i64 1))
  (.sm q (.l x0)
  .fin))))))))
 (.seq (.reg (.sm q1 (.t q5)
  (.sm q2 (.k (.int .i64 0))
  .fin)))
 .ret)))))),[(q1,none),(q2,none)],[]⟩
def c210 : CFn := ⟨[some q63],(.seq (.reg (.gen ⟨(.slot q1),.box (.t q63),none⟩
  (.sm q02 (.k .snil)
  .fin)))
 (.seq (.reg (.pld false 1 (.t q1)
  (.pca q414 [(.l x0)]
  (.pex (.l x0) 0
  (.pex (.l x1) 1
  (.sm q41 (.l x1)
  (.sm q22 (.l x0)
  .fin)))))))
 (.seq (.regd [(⟨(.slot q32),.call q211 [(.k (.int .i64 2))],none⟩,⟨3,0,1⟩),
  (⟨(.slot q42),.load false 1 (.t q1),none⟩,⟨1,0,1⟩),
  (⟨(.slot q52),.call q514 [(.t q42)],none⟩,⟨3,1,2⟩),
  (⟨(.slot q62),.load false 1 (.t q1),none⟩,⟨1,0,2⟩),
  (⟨(.slot q72),.load false 1 (.t q1),none⟩,⟨1,0,2⟩),
  (⟨(.slot q03),.len (.t q72),none⟩,⟨0,0,2⟩),
  (⟨(.slot q13),.bin .sub (.t q03) (.k (.int .i64 1)),none⟩,⟨0,0,2⟩),
  (⟨(.slot q23),.iaddr 2 (.t q62) (.t q13),none⟩,⟨0,0,2⟩),
  (⟨(.slot q33),.load true 2 (.t q23),none⟩,⟨1,0,2⟩),
  (⟨(.slot q43),.call q431 [(.t q52),(.t q33)],none⟩,⟨3,2,3⟩),
  (⟨(.slot q53),.call q431 [(.t q32),(.t q43)],none⟩,⟨3,3,4⟩),
  (⟨(.slot q71),.box (.k (.agg [(.bool false),.snil])),none⟩,⟨2,0,4⟩),
  (⟨.drop,.store 2 (.t q71) (.t q53),none⟩,⟨3,4,5⟩)])
 (.seq (.reg (.pca q211 [(.t q41)]
  (.gen ⟨(.slot q0),.box (.k (.agg [(.bool false),.snil])),none⟩
  (.sm q2 (.k (.int .i64 1))
  (.st 2 (.t q0) (.l x0)
  .fin)))))
 (.seq (.block 0 (.loop (.seq (.regc (.pld true 2 (.t q0)
  (.pld true 2 (.t q71)
  (.pca q614 [(.l x1),(.l x0)]
  (.pb .leq (.l x0) (.k (.int .i64 0))
  .fin)))) (.l x0) .skip (.exit 0))
 (.block 1 (.regd [(⟨(.slot q3),.move (.t q2),none⟩,⟨0,0,2⟩),
  (⟨(.slot q4),.bin .add (.t q3) (.k (.int .i64 1)),none⟩,⟨0,0,2⟩),
  (⟨(.slot q5),.load true 2 (.t q0),none⟩,⟨1,0,1⟩),
  (⟨(.slot q6),.move (.t q41),none⟩,⟨0,0,0⟩),
  (⟨(.slot q7),.call q211 [(.t q6)],none⟩,⟨3,0,1⟩),
  (⟨(.slot q00),.call q431 [(.t q5),(.t q7)],none⟩,⟨3,1,2⟩),
  (⟨(.slot q2),.move (.t q4),none⟩,⟨0,2,2⟩),
  (⟨.drop,.store 2 (.t q0) (.t q00),none⟩,⟨3,2,3⟩)])))))
 (.seq (.reg (.pld false 1 (.t q1)
  (.pca q714 [(.l x0),(.t q22),(.t q41),(.t q2)]
  (.gen ⟨(.slot q51),.box (.k .snil),none⟩
  (.st 1 (.t q51) (.l x0)
  .fin)))))
 (.seq (.reg (.gen ⟨(.slot q12),.box (.k .snil),none⟩
  .fin))
 (.seq (.reg (.gen ⟨(.slot q61),.box (.k .fnil),none⟩
  .fin))
 (.seq (.reg (.gen ⟨.push,.mkfn q024 [(.t q0),(.t q1),(.t q12),(.t q51),(.t q61)],none⟩
  (.st 1 (.t q61) (.l x0)
  .fin)))
 (.seq (.seq (.reg (.sm q (.k (.int .i64 1))
  .fin))
 (.block 2 (.loop (.seq (.regc (.pb .mul (.k (.int .i64 2)) (.t q)
  (.pld false 1 (.t q51)
  (.pln (.l x0)
  (.pb .leq (.l x2) (.l x0)
  .fin)))) (.l x0) .skip (.exit 2))
 (.block 3 (.seq (.regd [(⟨(.slot q10),.load false 1 (.t q61),none⟩,⟨1,0,0⟩),
  (⟨(.slot q20),.load false 1 (.t q1),none⟩,⟨1,0,0⟩),
  (⟨(.slot q30),.load false 1 (.t q1),none⟩,⟨1,0,0⟩),
  (⟨(.slot q40),.len (.t q30),none⟩,⟨0,0,0⟩),
  (⟨(.slot q50),.bin .sub (.t q40) (.k (.int .i64 1)),none⟩,⟨0,0,0⟩),
  (⟨(.slot q60),.iaddr 2 (.t q20) (.t q50),none⟩,⟨0,0,0⟩),
  (⟨(.slot q70),.load true 2 (.t q60),none⟩,⟨1,0,0⟩),
  (⟨(.slot q01),.bsl 2 1 [(.bool false),.snil] [(0,(.t q70))],none⟩,⟨2,0,0⟩),
  (⟨(.slot q11),.move (.t q),none⟩,⟨0,0,0⟩),
  (⟨(.slot q21),.callv (.t q10) [(.t q01),(.k .snil),(.k (.int .i64 0)),(.t q11)],none⟩,⟨3,0,1⟩),
  (⟨(.slot q31),.un .not (.t q21),none⟩,⟨0,1,1⟩)])
 (.cond (.t q31) (.reg (.pb .add (.t q) (.k (.int .i64 1))
  (.sm q (.l x0)
  .fin))) .skip)))))))
 (.seq (.reg (.pld false 1 (.t q12)
  (.pld false 1 (.t q1)
  (.gen ⟨.push,.bsl 1 1 [.snil] [(0,(.l x0))],none⟩
  (.gen ⟨.push,.append 1 24 (.l x2) (.l x0),none⟩
  (.sm q02 (.l x0)
  .fin))))))
 .ret))))))))))),[(q02,none)],[]⟩
def c211 : CFn := ⟨[some q0,some q1],(.seq (.reg (.pln (.t q0)
  (.sm q (.l x0)
  .fin)))
 (.reg (.pcv .u64 (.t q)
  (.pca q243 [(.l x0)]
  (.pca q724 [(.t q0),(.k (.int .i64 0)),(.t q),(.l x0),(.t q1)]
  .fin))))),[],[]⟩
def c214 : CFn := ⟨[some q],(.seq (.reg (.sm q0 (.k .snil)
  .fin))
 (.seq (.block 0 (.loop (.seq (.regc (.pln (.t q)
  (.pb .gtr (.l x0) (.k (.int .i64 0))
  (.gen ⟨.push,.move (.t q),some ((.l x0),true)⟩
  (.gen ⟨.push,.move (.t q),some ((.l x1),true)⟩
  (.gen ⟨.push,.len (.l x0),some ((.l x2),true)⟩
  (.gen ⟨.push,.bin .sub (.l x0) (.k (.int .i64 1)),some ((.l x3),true)⟩
  (.gen ⟨.push,.iaddr 4 (.l x3) (.l x0),some ((.l x4),true)⟩
  (.gen ⟨.push,.faddr 0 (.l x0),some ((.l x5),true)⟩
  (.gen ⟨.push,.faddr 1 (.l x0),some ((.l x6),true)⟩
  (.gen ⟨.push,.load false 1 (.l x0),some ((.l x7),true)⟩
  (.gen ⟨.push,.len (.l x0),some ((.l x8),true)⟩
  (.gen ⟨.push,.bin .eql (.l x0) (.k (.int .i64 0)),some ((.l x9),true)⟩
  (.gen ⟨.push,.pick (.l x10) (.l x0) (.k (.bool false)),none⟩
  .fin))))))))))))) (.l x0) .skip (.exit 0))
 (.block 1 (.reg (.pln (.t q)
  (.pb .sub (.l x0) (.k (.int .i64 1))
  (.gen ⟨.push,.slc 4 (.t q) none (some (.l x0)),none⟩
  (.sm q (.l x0)
  .fin)))))))))
 (.seq (.reg (.sm q0 (.t q)
  .fin))
 .ret))),[(q0,none)],[]⟩
def c215 : CFn := ⟨[some q1],(.seq (.reg (.gen ⟨(.slot q),.box (.t q1),none⟩
  (.gen ⟨(.slot q0),.box (.k (.agg [(.int .i64 0),(.int .i64 0),(.int .i64 0),.snil])),none⟩
  .fin)))
 (.seq (.reg (.pfa 1 (.t q)
  (.pld false 1 (.l x0)
  (.pld true 3 (.t q)
  (.gen ⟨.push,.build [(.int .i64 0),(.int .i64 0),(.int .i64 0),.snil] [(0,1,(.l x1)),(1,3,(.l x0))],none⟩
  (.st 4 (.t q0) (.l x0)
  .fin))))))
 .ret)),[(q0,some (true,4))],[]⟩
def c216 : CFn := ⟨[some q00],(.seq (.reg (.gen ⟨(.slot q5),.box (.t q00),none⟩
  (.gen ⟨(.slot q6),.box (.k (.agg [(.int .i64 0),(.int .i64 0),.snil])),none⟩
  (.sm q7 (.k (.int .i64 0))
  .fin))))
 (.seq (.regc (.pld true 3 (.t q5)
  (.pca q272 [(.l x0)]
  (.gen ⟨.push,.un .not (.l x0),none⟩
  .fin))) (.l x0) (.seq (.reg (.gen ⟨.push,.build [(.int .i64 0),(.int .i64 0),.snil] [],none⟩
  (.st 3 (.t q6) (.l x0)
  (.sm q7 (.k (.int .i64 4))
  .fin))))
 .ret) .skip)
 (.seq (.reg (.pfa 0 (.t q5)
  (.pld false 1 (.l x0)
  (.pfa 1 (.t q5)
  (.pld false 1 (.l x0)
  (.gen ⟨.push,.build [(.int .i64 0),(.int .i64 0),.snil] [(0,1,(.l x2)),(1,1,(.l x0))],none⟩
  (.gen ⟨(.slot q2),.box (.k (.agg [(.int .i64 0),(.int .i64 0),.snil])),none⟩
  (.st 3 (.t q2) (.l x0)
  .fin))))))))
 (.seq (.seq (.reg (.pfa 2 (.t q5)
  (.gen ⟨(.slot q3),.load false 1 (.l x0),none⟩
  (.gen ⟨(.slot q4),.len (.t q3),none⟩
  (.sm q (.k (.int .i64 0))
  .fin)))))
 (.block 0 (.loop (.seq (.regc (.pb .lss (.t q) (.t q4)
  .fin) (.l x0) .skip (.exit 0))
 (.seq (.block 1 (.seq (.reg (.pia 4 (.t q3) (.t q)
  (.pld true 4 (.l x0)
  (.gen ⟨(.slot q0),.box (.k (.agg [(.bool false),.snil,(.bool false),.snil])),none⟩
  (.st 4 (.t q0) (.l x0)
  .fin)))))
 (.seq (.reg (.gen ⟨.push,.bsl 4 0 [(.bool false),.snil,(.bool false),.snil] [],none⟩
  (.sm q1 (.l x0)
  .fin)))
 (.seq (.regc (.pld true 4 (.t q0)
  (.pca q15 [(.l x0)]
  (.pb .neq (.l x0) (.k (.int .i64 0))
  .fin))) (.l x0) (.reg (.pld true 4 (.t q0)
  (.pca q77 [(.l x0)]
  (.gen ⟨.push,.bsl 4 1 [(.bool false),.snil,(.bool false),.snil] [(0,(.l x0))],none⟩
  (.gen ⟨.push,.append 4 64 (.t q1) (.l x0),none⟩
  (.sm q1 (.l x0)
  .fin)))))) .skip)
 (.reg (.pfa 2 (.t q2)
  (.pld false 1 (.l x0)
  (.gen ⟨.push,.bsl 1 1 [.snil] [(0,(.t q1))],none⟩
  (.gen ⟨.push,.append 1 24 (.l x1) (.l x0),none⟩
  (.pfa 2 (.t q2)
  (.st 1 (.l x0) (.l x1)
  .fin)))))))))))
 (.reg (.pb .add (.t q) (.k (.int .i64 1))
  (.sm q (.l x0)
  .fin))))))))
 (.seq (.reg (.pld true 3 (.t q2)
  (.st 3 (.t q6) (.l x0)
  (.sm q7 (.k (.int .i64 0))
  .fin))))
 .ret))))),[(q6,some (true,3)),(q7,none)],[]⟩
def c217 : CFn := ⟨[some q3],(.seq (.reg (.gen ⟨(.slot q),.box (.k (.agg [.snil])),none⟩
  (.sm q0 (.k (.int .i64 0))
  .fin)))
 (.seq (.reg (.pca q63 [(.t q3)]
  (.gen ⟨.push,.build [.snil] [(0,1,(.l x0))],none⟩
  (.gen ⟨(.slot q1),.box (.k (.agg [.snil])),none⟩
  (.st 1 (.t q1) (.l x0)
  .fin)))))
 (.seq (.seq (.reg (.pld true 1 (.t q1)
  (.pca q134 [(.l x0)]
  (.sm q2 (.l x0)
  .fin))))
 (.regc (.pb .neq (.t q2) (.k (.int .i64 0))
  .fin) (.l x0) (.seq (.reg (.gen ⟨.push,.build [.snil] [],none⟩
  (.st 1 (.t q) (.l x0)
  (.sm q0 (.t q2)
  .fin))))
 .ret) .skip))
 (.seq (.reg (.pld true 1 (.t q1)
  (.st 1 (.t q) (.l x0)
  (.sm q0 (.k (.int .i64 0))
  .fin))))
 .ret)))),[(q,some (true,1)),(q0,none)],[]⟩
def c218 : CFn := ⟨[some q00],(.seq (.reg (.gen ⟨(.slot q2),.box (.t q00),none⟩
  (.sm q0 (.k .pnil)
  (.sm q1 (.k (.int .i64 0))
  .fin))))
 (.seq (.reg (.pld true 1 (.t q2)
  (.gen ⟨.push,.build [.snil,(.int .i64 0)] [(0,1,(.l x0))],none⟩
  (.gen ⟨.push,.box (.l x0),none⟩
  (.sm q (.l x0)
  .fin)))))
 (.seq (.reg (.pca q234 [(.t q),(.k .snil)]
  .fin))
 (.seq (.regd [(⟨(.slot q3),.move (.t q),none⟩,⟨0,0,0⟩),
  (⟨(.slot q4),.move (.t q),none⟩,⟨0,0,0⟩),
  (⟨(.slot q5),.nilc (.t q4),none⟩,⟨0,0,0⟩),
  (⟨(.slot q6),.faddr 1 (.t q5),none⟩,⟨0,0,0⟩),
  (⟨(.slot q7),.load false 1 (.t q6),none⟩,⟨1,0,0⟩),
  (⟨(.slot q0),.move (.t q3),none⟩,⟨0,0,0⟩),
  (⟨(.slot q1),.move (.t q7),none⟩,⟨0,0,0⟩)])
 .ret)))),[(q0,none),(q1,none)],[]⟩
def c219 : CFn := ⟨[some q11,some q61],(.seq (.reg (.gen ⟨(.slot q31),.box (.t q61),none⟩
  (.sm q51 (.k .snil)
  .fin)))
 (.seq (.reg (.pfa 0 (.t q31)
  (.pld false 1 (.l x0)
  (.gen ⟨.push,.mksl 1 24 [.snil] (.l x0) (.l x0),none⟩
  (.sm q1 (.l x0)
  .fin)))))
 (.seq (.seq (.reg (.gen ⟨(.slot q41),.len (.t q1),none⟩
  (.sm q21 (.k (.int .i64 0))
  .fin)))
 (.block 0 (.loop (.seq (.regc (.pb .lss (.t q21) (.t q41)
  .fin) (.l x0) .skip (.exit 0))
 (.seq (.block 1 (.seq (.reg (.sm q0 (.t q21)
  .fin))
 (.seq (.reg (.pfa 2 (.t q31)
  (.pld false 1 (.l x0)
  (.pfa 1 (.t q31)
  (.pld false 1 (.l x0)
  (.pb .mul (.t q0) (.l x0)
  (.pb .add (.t q0) (.k (.int .i64 1))
  (.pfa 1 (.t q31)
  (.pld false 1 (.l x0)
  (.pb .mul (.l x2) (.l x0)
  (.gen ⟨(.slot q70),.slc 1 (.l x7) (some (.l x4)) (some (.l x0)),none⟩
  (.gen ⟨(.slot q01),.len (.t q70),none⟩
  (.sm q (.k (.int .i64 0))
  .fin)))))))))))))
 (.block 2 (.loop (.seq (.regc (.pb .lss (.t q) (.t q01)
  .fin) (.l x0) .skip (.exit 2))
 (.seq (.block 3 (.seq (.reg (.pia 1 (.t q70) (.t q)
  (.pld false 1 (.l x0)
  (.sm q2 (.l x0)
  .fin))))
 (.regd [(⟨(.slot q3),.move (.t q1),none⟩,⟨0,0,2⟩),
  (⟨(.slot q4),.move (.t q0),none⟩,⟨0,0,2⟩),
  (⟨(.slot q5),.move (.t q1),none⟩,⟨0,0,1⟩),
  (⟨(.slot q6),.move (.t q0),none⟩,⟨0,0,1⟩),
  (⟨(.slot q7),.iaddr 1 (.t q5) (.t q6),none⟩,⟨0,0,1⟩),
  (⟨(.slot q00),.load false 1 (.t q7),none⟩,⟨1,0,1⟩),
  (⟨(.slot q10),.move (.t q11),none⟩,⟨0,0,0⟩),
  (⟨(.slot q20),.move (.t q2),none⟩,⟨0,0,0⟩),
  (⟨(.slot q30),.call q234 [(.t q10),(.t q20)],none⟩,⟨3,0,1⟩),
  (⟨(.slot q40),.bsl 1 1 [.snil] [(0,(.t q30))],none⟩,⟨2,1,1⟩),
  (⟨(.slot q50),.append 1 24 (.t q00) (.t q40),none⟩,⟨3,1,2⟩),
  (⟨(.slot q60),.iaddr 1 (.t q3) (.t q4),none⟩,⟨0,2,2⟩),
  (⟨.drop,.store 1 (.t q60) (.t q50),none⟩,⟨3,2,3⟩)])))
 (.reg (.pb .add (.t q) (.k (.int .i64 1))
  (.sm q (.l x0)
  .fin))))))))))
 (.reg (.pb .add (.t q21) (.k (.int .i64 1))
  (.sm q21 (.l x0)
  .fin))))))))
 (.seq (.reg (.sm q51 (.t q1)
  .fin))
 .ret)))),[(q51,none)],[]⟩
def c220 : CFn := ⟨[some q0,some q1,some q2],(.seq (.reg (.sm q (.k .snil)
  .fin))
 (.seq (.reg (.gen ⟨.push,.nilc (.t q0),none⟩
  (.pfa 0 (.l x0)
  (.pld true 1 (.l x0)
  (.pca q611 [(.l x0),(.t q1),(.t q2)]
  (.pex (.l x0) 0
  (.pex (.l x1) 1
  (.pca q334 [(.t q0),(.l x1),(.l x0)]
  (.sm q (.l x0)
  .fin)))))))))
 .ret)),[(q,none)],[]⟩
def c221 : CFn := ⟨[some q0],(.seq (.reg (.sm q (.k .snil)
  .fin))
 (.seq (.reg (.pca q24 [(.k (.int .i64 0))]
  (.pca q24 [(.k (.int .i64 1))]
  (.gen ⟨.push,.bsl 4 2 [(.bool false),.snil,(.bool false),.snil] [(0,(.l x1)),(1,(.l x0))],none⟩
  (.pca q234 [(.t q0),(.l x0)]
  (.sm q (.l x0)
  .fin))))))
 .ret)),[(q,none)],[]⟩
def c222 : CFn := ⟨[some q6,some q4,some q00],(.seq (.reg (.sm q30 (.k .snil)
  .fin))
 (.seq (.reg (.pln (.t q4)
  (.sm q7 (.l x0)
  .fin)))
 (.seq (.seq (.reg (.gen ⟨(.slot q10),.len (.t q4),none⟩
  (.sm q (.k (.int .i64 0))
  .fin)))
 (.block 0 (.loop (.seq (.regc (.pb .lss (.t q) (.t q10)
  .fin) (.l x0) .skip (.exit 0))
 (.seq (.block 1 (.seq (.reg (.sm q1 (.t q)
  .fin))
 (.seq (.reg (.gen ⟨.push,.mksl 1 24 [.snil] (.t q7) (.t q7),none⟩
  (.sm q2 (.l x0)
  .fin)))
 (.seq (.reg (.pca q24 [(.k (.int .i64 1))]
  (.gen ⟨.push,.bsl 4 1 [(.bool false),.snil,(.bool false),.snil] [(0,(.l x0))],none⟩
  (.pca q234 [(.t q6),(.l x0)]
  (.pia 1 (.t q2) (.t q1)
  (.st 1 (.l x0) (.l x1)
  .fin))))))
 (.reg (.pia 1 (.t q4) (.t q1)
  (.pld false 1 (.l x0)
  (.gen ⟨.push,.append 1 24 (.l x0) (.t q2),none⟩
  (.pia 1 (.t q4) (.t q1)
  (.st 1 (.l x0) (.l x1)
  .fin))))))))))
 (.reg (.pb .add (.t q) (.k (.int .i64 1))
  (.sm q (.l x0)
  .fin))))))))
 (.seq (.reg (.pca q434 [(.t q6),(.t q4),(.t q00)]
  (.sm q40 (.l x0)
  .fin)))
 (.seq (.regc (.gen ⟨.push,.nilc (.t q6),none⟩
  (.pfa 1 (.l x0)
  (.pld false 1 (.l x0)
  (.pb .neq (.l x0) (.k (.int .i64 0))
  .fin)))) (.l x0) (.seq (.reg (.sm q30 (.k .snil)
  .fin))
 .ret) .skip)
 (.seq (.reg (.pln (.t q40)
  (.gen ⟨.push,.slc 1 (.t q4) (some (.l x0)) none,none⟩
  (.sm q5 (.l x0)
  .fin))))
 (.seq (.seq (.reg (.gen ⟨(.slot q20),.len (.t q5),none⟩
  (.sm q0 (.k (.int .i64 0))
  .fin)))
 (.block 2 (.loop (.seq (.regc (.pb .lss (.t q0) (.t q20)
  .fin) (.l x0) .skip (.exit 2))
 (.seq (.block 3 (.seq (.reg (.sm q3 (.t q0)
  .fin))
 (.reg (.pia 1 (.t q5) (.t q3)
  (.pld false 1 (.l x0)
  (.gen ⟨.push,.slc 1 (.l x0) (some (.t q00)) none,none⟩
  (.pia 1 (.t q5) (.t q3)
  (.st 1 (.l x0) (.l x1)
  .fin))))))))
 (.reg (.pb .add (.t q0) (.k (.int .i64 1))
  (.sm q0 (.l x0)
  .fin))))))))
 (.seq (.reg (.pca q434 [(.t q6),(.t q5),(.t q7)]
  .fin))
 (.seq (.reg (.sm q30 (.t q5)
  .fin))
 .ret))))))))),[(q30,none)],[]⟩
def c223 : CFn := ⟨[some q64,some q12],(.seq (.reg (.sm q61 (.k .snil)
  (.sm q3 (.k .snil)
  .fin)))
 (.seq (.reg (.pca q313 [(.t q64)]
  (.sm q3 (.l x0)
  .fin)))
 (.seq (.regc (.pln (.t q64)
  (.pln (.t q12)
  (.pb .lss (.l x1) (.l x0)
  .fin))) (.l x0) (.seq (.reg (.gen ⟨.push,.move (.t q3),none⟩
  (.sm q61 (.k .snil)
  (.sm q3 (.l x0)
  .fin))))
 .ret) .skip)
 (.seq (.reg (.pln (.t q64)
  (.pln (.t q12)
  (.pb .sub (.l x1) (.l x0)
  (.pb .add (.l x0) (.k (.int .i64 1))
  (.gen ⟨.push,.mksl 4 64 [(.bool false),.snil,(.bool false),.snil] (.l x0) (.l x0),none⟩
  (.sm q61 (.l x0)
  .fin)))))))
 (.seq (.seq (.reg (.pln (.t q61)
  (.pb .sub (.l x0) (.k (.int .i64 1))
  (.sm q0 (.l x0)
  .fin))))
 (.block 0 (.loop (.seq (.regc (.pb .geq (.t q0) (.k (.int .i64 0))
  .fin) (.l x0) .skip (.exit 0))
 (.seq (.block 1 (.seq (.regd [(⟨(.slot q32),.move (.t q61),none⟩,⟨0,0,1⟩),
  (⟨(.slot q42),.move (.t q0),none⟩,⟨0,0,1⟩),
  (⟨(.slot q52),.move (.t q3),none⟩,⟨0,0,0⟩),
  (⟨(.slot q62),.move (.t q0),none⟩,⟨0,0,0⟩),
  (⟨(.slot q72),.move (.t q12),none⟩,⟨0,0,0⟩),
  (⟨(.slot q03),.len (.t q72),none⟩,⟨0,0,0⟩),
  (⟨(.slot q13),.bin .add (.t q62) (.t q03),none⟩,⟨0,0,0⟩),
  (⟨(.slot q23),.bin .sub (.t q13) (.k (.int .i64 1)),none⟩,⟨0,0,0⟩),
  (⟨(.slot q33),.iaddr 4 (.t q52) (.t q23),none⟩,⟨0,0,0⟩),
  (⟨(.slot q43),.load true 4 (.t q33),none⟩,⟨1,0,0⟩),
  (⟨(.slot q53),.move (.t q12),none⟩,⟨0,0,0⟩),
  (⟨(.slot q63),.move (.t q12),none⟩,⟨0,0,0⟩),
  (⟨(.slot q73),.len (.t q63),none⟩,⟨0,0,0⟩),
  (⟨(.slot q04),.bin .sub (.t q73) (.k (.int .i64 1)),none⟩,⟨0,0,0⟩),
  (⟨(.slot q14),.iaddr 4 (.t q53) (.t q04),none⟩,⟨0,0,0⟩),
  (⟨(.slot q24),.load true 4 (.t q14),none⟩,⟨1,0,0⟩),
  (⟨(.slot q34),.call q671 [(.t q43),(.t q24)],none⟩,⟨3,0,1⟩),
  (⟨(.slot q22),.move (.t q34),none⟩,⟨0,1,1⟩),
  (⟨(.slot q44),.extract (.t q22) 0,none⟩,⟨0,1,1⟩),
  (⟨.drop,.extract (.t q22) 1,none⟩,⟨0,1,2⟩),
  (⟨(.slot q54),.iaddr 4 (.t q32) (.t q42),none⟩,⟨0,1,1⟩),
  (⟨.drop,.store 4 (.t q54) (.t q44),none⟩,⟨3,1,2⟩)])
 (.seq (.regc (.pia 4 (.t q61) (.t q0)
  (.pld true 4 (.l x0)
  (.pca q443 [(.l x0)]
  .fin))) (.l x0) (.exit 1) .skip)
 (.seq (.reg (.sm q71 (.t q12)
  (.gen ⟨(.slot q02),.len (.t q71),none⟩
  (.sm q (.k (.int .i64 0))
  .fin))))
 (.block 2 (.loop (.seq (.regc (.pb .lss (.t q) (.t q02)
  .fin) (.l x0) .skip (.exit 2))
 (.seq (.block 3 (.seq (.reg (.gen ⟨.push,.move (.t q),none⟩
  (.pia 4 (.t q71) (.t q)
  (.pld true 4 (.l x0)
  (.gen ⟨(.slot q2),.box (.k (.agg [(.bool false),.snil,(.bool false),.snil])),none⟩
  (.sm q1 (.l x2)
  (.st 4 (.t q2) (.l x0)
  .fin)))))))
 (.regd [(⟨(.slot q4),.move (.t q3),none⟩,⟨0,0,2⟩),
  (⟨(.slot q5),.move (.t q0),none⟩,⟨0,0,2⟩),
  (⟨(.slot q6),.move (.t q1),none⟩,⟨0,0,2⟩),
  (⟨(.slot q7),.bin .add (.t q5) (.t q6),none⟩,⟨0,0,2⟩),
  (⟨(.slot q00),.move (.t q3),none⟩,⟨0,0,1⟩),
  (⟨(.slot q10),.move (.t q0),none⟩,⟨0,0,1⟩),
  (⟨(.slot q20),.move (.t q1),none⟩,⟨0,0,1⟩),
  (⟨(.slot q30),.bin .add (.t q10) (.t q20),none⟩,⟨0,0,1⟩),
  (⟨(.slot q40),.iaddr 4 (.t q00) (.t q30),none⟩,⟨0,0,1⟩),
  (⟨(.slot q50),.load true 4 (.t q40),none⟩,⟨1,0,1⟩),
  (⟨(.slot q60),.move (.t q61),none⟩,⟨0,0,0⟩),
  (⟨(.slot q70),.move (.t q0),none⟩,⟨0,0,0⟩),
  (⟨(.slot q01),.iaddr 4 (.t q60) (.t q70),none⟩,⟨0,0,0⟩),
  (⟨(.slot q11),.load true 4 (.t q01),none⟩,⟨1,0,0⟩),
  (⟨(.slot q21),.load true 4 (.t q2),none⟩,⟨1,0,0⟩),
  (⟨(.slot q31),.call q75 [(.t q11),(.t q21)],none⟩,⟨3,0,1⟩),
  (⟨(.slot q41),.call q261 [(.t q50),(.t q31)],none⟩,⟨3,1,2⟩),
  (⟨(.slot q51),.iaddr 4 (.t q4) (.t q7),none⟩,⟨0,2,2⟩),
  (⟨.drop,.store 4 (.t q51) (.t q41),none⟩,⟨3,2,3⟩)])))
 (.reg (.pb .add (.t q) (.k (.int .i64 1))
  (.sm q (.l x0)
  .fin)))))))))))
 (.reg (.pb .sub (.t q0) (.k (.int .i64 1))
  (.sm q0 (.l x0)
  .fin))))))))
 (.seq (.reg (.pca q623 [(.t q61)]
  (.pca q623 [(.t q3)]
  (.sm q61 (.l x1)
  (.sm q3 (.l x0)
  .fin)))))
 .ret)))))),[(q61,none),(q3,none)],[]⟩
def c224 : CFn := ⟨[some q0,some q1,some q2],(.seq (.reg (.sm q (.k .snil)
  .fin))
 (.seq (.reg (.pca q534 [(.t q1),(.t q2)]
  (.pca q111 [(.t q0),(.l x0)]
  (.sm q (.l x0)
  .fin))))
 .ret)),[(q,none)],[]⟩
def c225 : CFn := ⟨[some q2],(.seq (.reg (.gen ⟨(.slot q1),.box (.t q2),none⟩
  (.sm q0 (.k (.int .i64 0))
  .fin)))
 (.seq (.reg (.pfa 1 (.t q1)
  (.pld false 1 (.l x0)
  (.pca q231 [(.l x0)]
  (.sm q (.l x0)
  .fin)))))
 (.seq (.regc (.pln (.t q)
  (.pb .eql (.l x0) (.k (.int .i64 0))
  .fin)) (.l x0) (.seq (.reg (.sm q0 (.k (.int .i64 0))
  .fin))
 .ret) .skip)
 (.seq (.reg (.pln (.t q)
  (.pb .sub (.l x0) (.k (.int .i64 1))
  (.pb .mul (.k (.int .i64 32)) (.l x0)
  (.pln (.t q)
  (.pb .sub (.l x0) (.k (.int .i64 1))
  (.pia 1 (.t q) (.l x0)
  (.pld false 1 (.l x0)
  (.pca q634 [(.l x0)]
  (.pb .add (.l x5) (.l x0)
  (.sm q0 (.l x0)
  .fin)))))))))))
 .ret)))),[(q0,none)],[]⟩
def c226 : CFn := ⟨[some q0],(.seq (.regc (.sm q (.k (.int .i64 0))
  .fin) (.k (.bool false)) (.seq (.reg (.pcv .u32 (.t q0)
  (.pca q634 [(.l x0)]
  (.sm q (.l x0)
  .fin))))
 .ret) .skip)
 (.seq (.reg (.pca q734 [(.t q0)]
  (.sm q (.l x0)
  .fin)))
 .ret)),[(q,none)],[]⟩
def c227 : CFn := ⟨[some q3,some q4,some q7],(.seq (.reg (.sm q00 (.k .snil)
  .fin))
 (.seq (.reg (.pln (.t q3)
  (.pln (.t q4)
  (.gen ⟨.push,.max [(.l x1),(.l x0)],none⟩
  (.gen ⟨.push,.mksl 4 64 [(.bool false),.snil,(.bool false),.snil] (.l x0) (.l x0),none⟩
  (.sm q5 (.l x0)
  .fin))))))
 (.seq (.seq (.reg (.gen ⟨(.slot q6),.len (.t q5),none⟩
  (.sm q0 (.k (.int .i64 0))
  .fin)))
 (.block 0 (.loop (.seq (.regc (.pb .lss (.t q0) (.t q6)
  .fin) (.l x0) .skip (.exit 0))
 (.seq (.block 1 (.seq (.reg (.sm q (.t q0)
  .fin))
 (.seq (.reg (.gen ⟨(.slot q1),.box (.k (.agg [(.bool false),.snil,(.bool false),.snil])),none⟩
  (.gen ⟨(.slot q2),.box (.k (.agg [(.bool false),.snil,(.bool false),.snil])),none⟩
  .fin)))
 (.seq (.regc (.pln (.t q3)
  (.pb .lss (.t q) (.l x0)
  .fin)) (.l x0) (.reg (.pia 4 (.t q3) (.t q)
  (.pld true 4 (.l x0)
  (.st 4 (.t q1) (.l x0)
  .fin)))) .skip)
 (.seq (.regc (.pln (.t q4)
  (.pb .lss (.t q) (.l x0)
  .fin)) (.l x0) (.reg (.pia 4 (.t q4) (.t q)
  (.pld true 4 (.l x0)
  (.st 4 (.t q2) (.l x0)
  .fin)))) .skip)
 (.reg (.pld true 4 (.t q1)
  (.pld true 4 (.t q2)
  (.gen ⟨.push,.callv (.t q7) [(.l x1),(.l x0)],none⟩
  (.pia 4 (.t q5) (.t q)
  (.st 4 (.l x0) (.l x1)
  .fin)))))))))))
 (.reg (.pb .add (.t q0) (.k (.int .i64 1))
  (.sm q0 (.l x0)
  .fin))))))))
 (.seq (.reg (.pca q623 [(.t q5)]
  (.sm q00 (.l x0)
  .fin)))
 .ret)))),[(q00,none)],[]⟩
def c228 : CFn := ⟨[some q1],(.seq (.reg (.gen ⟨(.slot q0),.box (.t q1),none⟩
  (.sm q (.k (.bool false))
  .fin)))
 (.seq (.reg (.pld true 4 (.t q0)
  (.pca q15 [(.l x0)]
  (.pb .eql (.l x0) (.k (.int .i64 0))
  (.sm q (.l x0)
  .fin)))))
 .ret)),[(q,none)],[]⟩
def c231 : CFn := ⟨[some q10,some q01],(.seq (.reg (.gen ⟨(.slot q4),.box (.k (.agg [.snil,(.int .i64 0),(.int .i64 0),(.int .i64 0),(.int .i64 0)])),none⟩
  (.sm q5 (.k (.int .i64 0))
  .fin)))
 (.seq (.regc (.gen ⟨.push,.cmp 1 .eql (.t q10) (.k .pnil),none⟩
  .fin) (.l x0) (.seq (.reg (.gen ⟨.push,.build [.snil,(.int .i64 0),(.int .i64 0),(.int .i64 0),(.int .i64 0)] [],none⟩
  (.st 5 (.t q4) (.l x0)
  (.sm q5 (.k (.int .i64 1))
  .fin))))
 .ret) .skip)
 (.seq (.reg (.pca q36 [(.t q10)]
  (.gen ⟨(.slot q6),.box (.k (.agg [(.int .i64 0),(.int .i64 0),(.int .i64 0)])),none⟩
  (.st 3 (.t q6) (.l x0)
  .fin))))
 (.seq (.reg (.pld true 3 (.t q6)
  (.pca q204 [(.l x0),(.t q01)]
  (.pex (.l x0) 0
  (.pex (.l x1) 1
  (.gen ⟨(.slot q7),.box (.k (.agg [(.int .i64 0),(.int .i64 0),(.int .i64 0)])),none⟩
  (.st 3 (.t q7) (.l x1)
  (.sm q2 (.l x0)
  .fin))))))))
 (.seq (.regc (.pb .neq (.t q2) (.k (.int .i64 0))
  .fin) (.l x0) (.seq (.reg (.gen ⟨.push,.build [.snil,(.int .i64 0),(.int .i64 0),(.int .i64 0),(.int .i64 0)] [],none⟩
  (.st 5 (.t q4) (.l x0)
  (.sm q5 (.t q2)
  .fin))))
 .ret) .skip)
 (.seq (.reg (.pfa 0 (.t q6)
  (.pld false 1 (.l x0)
  (.pfa 1 (.t q7)
  (.pld false 1 (.l x0)
  (.pfa 2 (.t q7)
  (.pld false 1 (.l x0)
  (.pca q304 [(.l x4),(.l x2),(.l x0)]
  (.pex (.l x0) 0
  (.pex (.l x1) 1
  (.sm q20 (.l x1)
  (.sm q2 (.l x0)
  .fin))))))))))))
 (.seq (.regc (.pb .neq (.t q2) (.k (.int .i64 0))
  .fin) (.l x0) (.seq (.reg (.gen ⟨.push,.build [.snil,(.int .i64 0),(.int .i64 0),(.int .i64 0),(.int .i64 0)] [],none⟩
  (.st 5 (.t q4) (.l x0)
  (.sm q5 (.t q2)
  .fin))))
 .ret) .skip)
 (.seq (.reg (.pfa 0 (.t q6)
  (.pld false 1 (.l x0)
  (.pca q404 [(.l x0),(.t q20)]
  (.pex (.l x0) 0
  (.pex (.l x1) 1
  (.gen ⟨(.slot q00),.box (.k (.agg [(.int .i64 0),(.int .i64 0),(.int .i64 0),(.int .i64 0)])),none⟩
  (.st 4 (.t q00) (.l x1)
  (.sm q2 (.l x0)
  .fin)))))))))
 (.seq (.regc (.pb .neq (.t q2) (.k (.int .i64 0))
  .fin) (.l x0) (.seq (.reg (.gen ⟨.push,.build [.snil,(.int .i64 0),(.int .i64 0),(.int .i64 0),(.int .i64 0)] [],none⟩
  (.st 5 (.t q4) (.l x0)
  (.sm q5 (.t q2)
  .fin))))
 .ret) .skip)
 (.seq (.reg (.pfa 1 (.t q6)
  (.pld false 1 (.l x0)
  (.pb .sub (.l x0) (.k (.int .i64 1))
  (.gen ⟨.push,.mksl 4 64 [(.bool false),.snil,(.bool false),.snil] (.l x0) (.l x0),none⟩
  (.sm q1 (.l x0)
  .fin))))))
 (.seq (.seq (.reg (.gen ⟨(.slot q3),.len (.t q1),none⟩
  (.sm q (.k (.int .i64 0))
  .fin)))
 (.block 0 (.loop (.seq (.regc (.pb .lss (.t q) (.t q3)
  .fin) (.l x0) .skip (.exit 0))
 (.seq (.block 1 (.seq (.reg (.sm q0 (.t q)
  .fin))
 (.reg (.pca q24 [(.k (.int .i64 0))]
  (.pia 4 (.t q1) (.t q0)
  (.st 4 (.l x0) (.l x1)
  .fin))))))
 (.reg (.pb .add (.t q) (.k (.int .i64 1))
  (.sm q (.l x0)
  .fin))))))))
 (.seq (.regd [(⟨(.slot q30),.move (.t q1),none⟩,⟨0,0,1⟩),
  (⟨(.slot q40),.faddr 0 (.t q7),none⟩,⟨0,0,1⟩),
  (⟨(.slot q50),.load false 1 (.t q40),none⟩,⟨1,0,1⟩),
  (⟨(.slot q60),.call q24 [(.k (.int .i64 1))],none⟩,⟨3,0,1⟩),
  (⟨(.slot q70),.iaddr 4 (.t q30) (.t q50),none⟩,⟨0,1,1⟩),
  (⟨.drop,.store 4 (.t q70) (.t q60),none⟩,⟨3,1,2⟩)])
 (.seq (.reg (.gen ⟨.push,.build [(.int .i64 0),(.int .i64 0)] [(0,1,(.k (.int .i64 0))),(1,1,(.k (.int .i64 1)))],none⟩
  (.gen ⟨.push,.build [(.int .i64 0),(.int .i64 0)] [(0,1,(.k (.int .i64 1))),(1,1,(.k (.int .i64 0)))],none⟩
  (.gen ⟨.push,.build [.snil,(.int .i64 0),(.int .i64 0),(.int .i64 0),(.int .i64 0)] [(0,1,(.t q1)),(1,2,(.l x1)),(3,2,(.l x0))],none⟩
  (.pld true 4 (.t q00)
  (.pca q053 [(.l x1),(.l x0)]
  (.pex (.l x0) 0
  (.pex (.l x1) 1
  (.st 5 (.t q4) (.l x1)
  (.sm q5 (.l x0)
  .fin))))))))))
 .ret))))))))))))),[(q4,some (true,5)),(q5,none)],[]⟩
def c232 : CFn := ⟨[some q71,some q02],(.seq (.reg (.gen ⟨(.slot q0),.box (.t q71),none⟩
  (.gen ⟨(.slot q),.box (.t q02),none⟩
  (.gen ⟨(.slot q1),.box (.k (.agg [.snil,(.int .i64 0),(.int .i64 0),(.int .i64 0),(.int .i64 0)])),none⟩
  (.sm q2 (.k (.int .i64 0))
  .fin)))))
 (.seq (.regc (.pfa 0 (.t q0)
  (.pld false 1 (.l x0)
  (.pln (.l x0)
  (.pb .lss (.l x0) (.k (.int .i64 1))
  (.gen ⟨.push,.faddr 0 (.t q0),some ((.l x0),false)⟩
  (.gen ⟨.push,.load false 1 (.l x0),some ((.l x1),false)⟩
  (.gen ⟨.push,.len (.l x0),some ((.l x2),false)⟩
  (.gen ⟨.push,.bin .gtr (.l x0) (.k (.int .i64 23)),some ((.l x3),false)⟩
  (.gen ⟨.push,.pick (.l x4) (.k (.bool true)) (.l x0),none⟩
  .fin))))))))) (.l x0) (.seq (.reg (.gen ⟨.push,.build [.snil,(.int .i64 0),(.int .i64 0),(.int .i64 0),(.int .i64 0)] [],none⟩
  (.st 5 (.t q1) (.l x0)
  (.sm q2 (.k (.int .i64 4))
  .fin))))
 .ret) .skip)
 (.seq (.reg (.pld true 4 (.t q)
  (.pfa 1 (.t q0)
  (.pld true 2 (.l x0)
  (.pca q044 [(.l x2),(.l x0)]
  (.pex (.l x0) 0
  (.pex (.l x1) 1
  (.gen ⟨(.slot q4),.box (.k (.agg [(.int .i64 0),(.int .i64 0)])),none⟩
  (.st 2 (.t q4) (.l x1)
  (.sm q3 (.l x0)
  .fin))))))))))
 (.seq (.regc (.pb .neq (.t q3) (.k (.int .i64 0))
  .fin) (.l x0) (.seq (.reg (.gen ⟨.push,.build [.snil,(.int .i64 0),(.int .i64 0),(.int .i64 0),(.int .i64 0)] [],none⟩
  (.st 5 (.t q1) (.l x0)
  (.sm q2 (.t q3)
  .fin))))
 .ret) .skip)
 (.seq (.reg (.pld true 4 (.t q)
  (.pfa 3 (.t q0)
  (.pld true 2 (.l x0)
  (.pca q044 [(.l x2),(.l x0)]
  (.pex (.l x0) 0
  (.pex (.l x1) 1
  (.gen ⟨(.slot q5),.box (.k (.agg [(.int .i64 0),(.int .i64 0)])),none⟩
  (.st 2 (.t q5) (.l x1)
  (.sm q3 (.l x0)
  .fin))))))))))
 (.seq (.regc (.pb .neq (.t q3) (.k (.int .i64 0))
  .fin) (.l x0) (.seq (.reg (.gen ⟨.push,.build [.snil,(.int .i64 0),(.int .i64 0),(.int .i64 0),(.int .i64 0)] [],none⟩
  (.st 5 (.t q1) (.l x0)
  (.sm q2 (.t q3)
  .fin))))
 .ret) .skip)
 (.seq (.regd [(⟨(.slot q6),.faddr 0 (.t q0),none⟩,⟨0,0,0⟩),
  (⟨(.slot q7),.load false 1 (.t q6),none⟩,⟨1,0,0⟩),
  (⟨(.slot q00),.faddr 3 (.t q),none⟩,⟨0,0,0⟩),
  (⟨(.slot q10),.load false 1 (.t q00),none⟩,⟨1,0,0⟩),
  (⟨(.slot q20),.faddr 1 (.t q),none⟩,⟨0,0,0⟩),
  (⟨(.slot q30),.load false 1 (.t q20),none⟩,⟨1,0,0⟩),
  (⟨(.slot q40),.un .neg (.t q30),none⟩,⟨0,0,0⟩),
  (⟨(.slot q50),.faddr 2 (.t q),none⟩,⟨0,0,0⟩),
  (⟨(.slot q60),.load false 1 (.t q50),none⟩,⟨1,0,0⟩),
  (⟨(.slot q70),.un .neg (.t q60),none⟩,⟨0,0,0⟩),
  (⟨(.slot q01),.faddr 0 (.t q),none⟩,⟨0,0,0⟩),
  (⟨(.slot q11),.load false 1 (.t q01),none⟩,⟨1,0,0⟩),
  (⟨(.slot q21),.build [(.int .i64 0),(.int .i64 0),(.int .i64 0),(.int .i64 0)] [(0,1,(.t q10)),(1,1,(.t q40)),(2,1,(.t q70)),(3,1,(.t q11))],none⟩,⟨0,0,0⟩),
  (⟨(.slot q31),.call q052 [(.t q7),(.t q21)],none⟩,⟨3,0,1⟩),
  (⟨(.slot q41),.load true 2 (.t q4),none⟩,⟨1,0,1⟩),
  (⟨(.slot q51),.load true 2 (.t q5),none⟩,⟨1,0,1⟩),
  (⟨(.slot q61),.build [.snil,(.int .i64 0),(.int .i64 0),(.int .i64 0),(.int .i64 0)] [(0,1,(.t q31)),(1,2,(.t q41)),(3,2,(.t q51))],none⟩,⟨0,1,1⟩),
  (⟨.drop,.store 5 (.t q1) (.t q61),none⟩,⟨3,1,2⟩),
  (⟨(.slot q2),.move (.k (.int .i64 0)),none⟩,⟨0,2,2⟩)])
 .ret))))))),[(q1,some (true,5)),(q2,none)],[]⟩
def c233 : CFn := ⟨[some q3,some q4],(.seq (.reg (.gen ⟨(.slot q0),.box (.t q3),none⟩
  (.gen ⟨(.slot q1),.box (.t q4),none⟩
  (.sm q (.k (.int .i64 0))
  .fin))))
 (.seq (.seq (.reg (.pld true 4 (.t q0)
  (.pca q144 [(.l x0)]
  (.sm q2 (.l x0)
  .fin))))
 (.regc (.pb .neq (.t q2) (.k (.int .i64 0))
  .fin) (.l x0) (.seq (.reg (.sm q (.t q2)
  .fin))
 .ret) .skip))
 (.seq (.regc (.pld true 3 (.t q1)
  (.pca q272 [(.l x0)]
  (.gen ⟨.push,.un .not (.l x0),none⟩
  (.gen ⟨.push,.faddr 0 (.t q1),some ((.l x0),false)⟩
  (.gen ⟨.push,.load false 1 (.l x0),some ((.l x1),false)⟩
  (.gen ⟨.push,.faddr 0 (.t q0),some ((.l x2),false)⟩
  (.gen ⟨.push,.load false 1 (.l x0),some ((.l x3),false)⟩
  (.gen ⟨.push,.bin .neq (.l x2) (.l x0),some ((.l x4),false)⟩
  (.gen ⟨.push,.pick (.l x5) (.k (.bool true)) (.l x0),none⟩
  (.gen ⟨.push,.faddr 1 (.t q1),some ((.l x0),false)⟩
  (.gen ⟨.push,.load false 1 (.l x0),some ((.l x1),false)⟩
  (.gen ⟨.push,.faddr 0 (.t q0),some ((.l x2),false)⟩
  (.gen ⟨.push,.load false 1 (.l x0),some ((.l x3),false)⟩
  (.gen ⟨.push,.bin .neq (.l x2) (.l x0),some ((.l x4),false)⟩
  (.gen ⟨.push,.pick (.l x5) (.k (.bool true)) (.l x0),none⟩
  .fin))))))))))))))) (.l x0) (.seq (.reg (.sm q (.k (.int .i64 4))
  .fin))
 .ret) .skip)
 (.seq (.reg (.sm q (.k (.int .i64 0))
  .fin))
 .ret)))),[(q,none)],[]⟩
def c234 : CFn := ⟨[some q42,some q52],(.seq (.reg (.gen ⟨(.slot q2),.box (.t q42),none⟩
  (.sm q61 (.k .snil)
  (.sm q60 (.k .snil)
  .fin))))
 (.seq (.seq (.reg (.sm q02 (.t q52)
  (.gen ⟨(.slot q22),.len (.t q02),none⟩
  (.sm q41 (.k (.int .i64 0))
  .fin))))
 (.block 0 (.loop (.seq (.regc (.pb .lss (.t q41) (.t q22)
  .fin) (.l x0) .skip (.exit 0))
 (.seq (.block 1 (.seq (.reg (.pia 4 (.t q02) (.t q41)
  (.pld true 4 (.l x0)
  (.gen ⟨(.slot q51),.box (.k (.agg [(.bool false),.snil,(.bool false),.snil])),none⟩
  (.st 4 (.t q51) (.l x0)
  .fin)))))
 (.reg (.pld true 4 (.t q51)
  (.pca q77 [(.l x0)]
  (.gen ⟨.push,.bsl 4 1 [(.bool false),.snil,(.bool false),.snil] [(0,(.l x0))],none⟩
  (.gen ⟨.push,.append 4 64 (.t q60) (.l x0),none⟩
  (.sm q60 (.l x0)
  .fin))))))))
 (.reg (.pb .add (.t q41) (.k (.int .i64 1))
  (.sm q41 (.l x0)
  .fin))))))))
 (.seq (.seq (.reg (.pld true 4 (.t q2)
  (.gen ⟨(.slot q12),.call q244 [(.l x0)],none⟩
  (.gen ⟨(.slot q32),.len (.t q12),none⟩
  (.sm q31 (.k (.int .i64 0))
  .fin)))))
 (.block 2 (.loop (.seq (.regc (.pb .lss (.t q31) (.t q32)
  .fin) (.l x0) .skip (.exit 2))
 (.seq (.block 3 (.seq (.reg (.pia 1 (.t q12) (.t q31)
  (.pld false 1 (.l x0)
  (.sm q11 (.t q31)
  (.sm q71 (.l x0)
  .fin)))))
 (.seq (.reg (.pia 4 (.t q60) (.t q71)
  (.pld true 4 (.l x0)
  (.gen ⟨(.slot q70),.box (.k (.agg [(.bool false),.snil,(.bool false),.snil])),none⟩
  (.st 4 (.t q70) (.l x0)
  .fin)))))
 (.seq (.reg (.pld true 4 (.t q70)
  (.gen ⟨.push,.bsl 4 1 [(.bool false),.snil,(.bool false),.snil] [(0,(.l x0))],none⟩
  (.gen ⟨.push,.append 4 64 (.t q61) (.l x0),none⟩
  (.sm q61 (.l x0)
  .fin)))))
 (.seq (.regc (.pld true 4 (.t q70)
  (.pca q15 [(.l x0)]
  (.pb .eql (.l x0) (.k (.int .i64 0))
  .fin))) (.l x0) (.exit 3) .skip)
 (.seq (.reg (.pca q344 [(.t q60)]
  (.sm q01 (.l x0)
  .fin)))
 (.seq (.seq (.reg (.gen ⟨(.slot q21),.len (.t q60),none⟩
  (.sm q (.k (.int .i64 0))
  .fin)))
 (.block 4 (.loop (.seq (.regc (.pb .lss (.t q) (.t q21)
  .fin) (.l x0) .skip (.exit 4))
 (.seq (.block 5 (.seq (.reg (.sm q0 (.t q)
  .fin))
 (.seq (.reg (.pfa 1 (.t q2)
  (.pfa 2 (.l x0)
  (.pld false 1 (.l x0)
  (.pfa 0 (.t q2)
  (.pld false 1 (.l x0)
  (.pb .mul (.t q11) (.l x0)
  (.pb .add (.l x0) (.t q0)
  (.pia 4 (.l x4) (.l x0)
  (.pld true 4 (.l x0)
  (.gen ⟨(.slot q1),.box (.k (.agg [(.bool false),.snil,(.bool false),.snil])),none⟩
  (.st 4 (.t q1) (.l x0)
  .fin))))))))))))
 (.regc (.pld true 4 (.t q1)
  (.pca q15 [(.l x0)]
  (.pb .neq (.l x0) (.k (.int .i64 0))
  .fin))) (.l x0) (.regd [(⟨(.slot q3),.move (.t q01),none⟩,⟨0,0,2⟩),
  (⟨(.slot q4),.move (.t q0),none⟩,⟨0,0,2⟩),
  (⟨(.slot q5),.move (.t q60),none⟩,⟨0,0,1⟩),
  (⟨(.slot q6),.move (.t q0),none⟩,⟨0,0,1⟩),
  (⟨(.slot q7),.iaddr 4 (.t q5) (.t q6),none⟩,⟨0,0,1⟩),
  (⟨(.slot q00),.load true 4 (.t q7),none⟩,⟨1,0,1⟩),
  (⟨(.slot q10),.load true 4 (.t q70),none⟩,⟨1,0,0⟩),
  (⟨(.slot q20),.load true 4 (.t q1),none⟩,⟨1,0,0⟩),
  (⟨(.slot q30),.call q75 [(.t q10),(.t q20)],none⟩,⟨3,0,1⟩),
  (⟨(.slot q40),.call q261 [(.t q00),(.t q30)],none⟩,⟨3,1,2⟩),
  (⟨(.slot q50),.iaddr 4 (.t q3) (.t q4),none⟩,⟨0,2,2⟩),
  (⟨.drop,.store 4 (.t q50) (.t q40),none⟩,⟨3,2,3⟩)]) .skip))))
 (.reg (.pb .add (.t q) (.k (.int .i64 1))
  (.sm q (.l x0)
  .fin))))))))
 (.reg (.sm q60 (.t q01)
  .fin)))))))))
 (.reg (.pb .add (.t q31) (.k (.int .i64 1))
  (.sm q31 (.l x0)
  .fin))))))))
 (.seq (.reg (.gen ⟨.push,.move (.t q60),none⟩
  (.sm q61 (.t q61)
  (.sm q60 (.l x0)
  .fin))))
 .ret)))),[(q61,none),(q60,none)],[]⟩
def c235 : CFn := ⟨[some q2,some q1],(.seq (.reg (.gen ⟨(.slot q),.box (.t q2),none⟩
  (.sm q0 (.k .snil)
  .fin)))
 (.seq (.reg (.pfa 2 (.t q)
  (.pld false 1 (.l x0)
  (.pfa 1 (.t q)
  (.pld false 1 (.l x0)
  (.pb .mul (.t q1) (.l x0)
  (.pb .add (.t q1) (.k (.int .i64 1))
  (.pfa 1 (.t q)
  (.pld false 1 (.l x0)
  (.pb .mul (.l x2) (.l x0)
  (.gen ⟨.push,.slc 4 (.l x7) (some (.l x4)) (some (.l x0)),none⟩
  (.sm q0 (.l x0)
  .fin))))))))))))
 .ret)),[(q0,none)],[]⟩
def c236 : CFn := ⟨[some q0],(.seq (.reg (.sm q (.k (.bool false))
  .fin))
 (.seq (.reg (.pca q444 [(.t q0),(.k (.fnv q544 []))]
  (.gen ⟨.push,.un .not (.l x0),none⟩
  (.sm q (.l x0)
  .fin))))
 .ret)),[(q,none)],[]⟩
def c237 : CFn := ⟨[some q,some q46],(.seq (.reg (.sm q56 (.k .snil)
  (.gen ⟨(.slot q66),.box (.k (.agg [(.bool false),.snil,(.bool false),.snil])),none⟩
  .fin)))
 (.seq (.reg (.sm q71 (.k .snil)
  .fin))
 (.seq (.reg (.pca q24 [(.k (.int .i64 1))]
  (.gen ⟨(.slot q02),.box (.k (.agg [(.bool false),.snil,(.bool false),.snil])),none⟩
  (.st 4 (.t q02) (.l x0)
  .fin))))
 (.seq (.seq (.reg (.sm q1 (.k (.int .i64 0))
  .fin))
 (.block 0 (.loop (.seq (.regc (.pb .lss (.t q1) (.t q46)
  (.gen ⟨.push,.move (.t q71),some ((.l x0),true)⟩
  (.gen ⟨.push,.len (.l x0),some ((.l x1),true)⟩
  (.gen ⟨.push,.move (.t q),some ((.l x2),true)⟩
  (.gen ⟨.push,.len (.l x0),some ((.l x3),true)⟩
  (.gen ⟨.push,.bin .lss (.l x2) (.l x0),some ((.l x4),true)⟩
  (.gen ⟨.push,.pick (.l x5) (.l x0) (.k (.bool false)),none⟩
  .fin))))))) (.l x0) .skip (.exit 0))
 (.seq (.block 1 (.seq (.reg (.pln (.t q71)
  (.pln (.t q71)
  (.sm q4 (.l x1)
  (.sm q2 (.l x0)
  .fin)))))
 (.seq (.block 2 (.loop (.seq (.regc (.pln (.t q)
  (.pb .lss (.t q2) (.l x0)
  (.gen ⟨.push,.move (.t q),some ((.l x0),true)⟩
  (.gen ⟨.push,.move (.t q2),some ((.l x1),true)⟩
  (.gen ⟨.push,.iaddr 1 (.l x1) (.l x0),some ((.l x2),true)⟩
  (.gen ⟨.push,.load false 1 (.l x0),some ((.l x3),true)⟩
  (.gen ⟨.push,.move (.t q1),some ((.l x4),true)⟩
  (.gen ⟨.push,.iaddr 4 (.l x1) (.l x0),some ((.l x5),true)⟩
  (.gen ⟨.push,.load true 4 (.l x0),some ((.l x6),true)⟩
  (.gen ⟨.push,.call q773 [(.l x0)],some ((.l x7),true)⟩
  (.gen ⟨.push,.un .not (.l x0),some ((.l x8),true)⟩
  (.gen ⟨.push,.pick (.l x9) (.l x0) (.k (.bool false)),none⟩
  .fin)))))))))))) (.l x0) .skip (.exit 2))
 (.block 3 (.reg (.pb .add (.t q2) (.k (.int .i64 1))
  (.sm q2 (.l x0)
  .fin)))))))
 (.seq (.regc (.pln (.t q)
  (.pb .eql (.t q2) (.l x0)
  .fin)) (.l x0) (.exit 1) .skip)
 (.seq (.regc (.pb .neq (.t q2) (.t q4)
  .fin) (.l x0) (.seq (.regd [(⟨(.slot q12),.move (.t q),none⟩,⟨0,0,0⟩),
  (⟨(.slot q22),.move (.t q2),none⟩,⟨0,0,0⟩),
  (⟨(.slot q32),.move (.t q),none⟩,⟨0,0,1⟩),
  (⟨(.slot q42),.move (.t q4),none⟩,⟨0,0,1⟩),
  (⟨(.slot q52),.move (.t q),none⟩,⟨0,0,0⟩),
  (⟨(.slot q62),.move (.t q4),none⟩,⟨0,0,0⟩),
  (⟨(.slot q72),.iaddr 1 (.t q52) (.t q62),none⟩,⟨0,0,0⟩),
  (⟨(.slot q03),.load false 1 (.t q72),none⟩,⟨1,0,0⟩),
  (⟨(.slot q13),.move (.t q),none⟩,⟨0,0,0⟩),
  (⟨(.slot q23),.move (.t q2),none⟩,⟨0,0,0⟩),
  (⟨(.slot q33),.iaddr 1 (.t q13) (.t q23),none⟩,⟨0,0,0⟩),
  (⟨(.slot q43),.load false 1 (.t q33),none⟩,⟨1,0,0⟩),
  (⟨(.slot q53),.iaddr 1 (.t q12) (.t q22),none⟩,⟨0,0,0⟩),
  (⟨.drop,.store 1 (.t q53) (.t q03),none⟩,⟨3,0,1⟩),
  (⟨(.slot q63),.iaddr 1 (.t q32) (.t q42),none⟩,⟨0,1,1⟩),
  (⟨.drop,.store 1 (.t q63) (.t q43),none⟩,⟨3,1,2⟩)])
 (.reg (.pld true 4 (.t q02)
  (.pca q551 [(.l x0)]
  (.st 4 (.t q02) (.l x0)
  .fin))))) .skip)
 (.seq (.regd [(⟨(.slot q73),.load true 4 (.t q02),none⟩,⟨1,0,0⟩),
  (⟨(.slot q04),.move (.t q),none⟩,⟨0,0,0⟩),
  (⟨(.slot q14),.move (.t q4),none⟩,⟨0,0,0⟩),
  (⟨(.slot q24),.iaddr 1 (.t q04) (.t q14),none⟩,⟨0,0,0⟩),
  (⟨(.slot q34),.load false 1 (.t q24),none⟩,⟨1,0,0⟩),
  (⟨(.slot q44),.move (.t q1),none⟩,⟨0,0,0⟩),
  (⟨(.slot q54),.iaddr 4 (.t q34) (.t q44),none⟩,⟨0,0,0⟩),
  (⟨(.slot q64),.load true 4 (.t q54),none⟩,⟨1,0,0⟩),
  (⟨(.slot q74),.call q75 [(.t q73),(.t q64)],none⟩,⟨3,0,1⟩),
  (⟨.drop,.store 4 (.t q02) (.t q74),none⟩,⟨3,1,2⟩)])
 (.seq (.regd [(⟨(.slot q05),.move (.t q),none⟩,⟨0,0,0⟩),
  (⟨(.slot q15),.move (.t q4),none⟩,⟨0,0,0⟩),
  (⟨(.slot q25),.iaddr 1 (.t q05) (.t q15),none⟩,⟨0,0,0⟩),
  (⟨(.slot q35),.load false 1 (.t q25),none⟩,⟨1,0,0⟩),
  (⟨(.slot q45),.move (.t q),none⟩,⟨0,0,0⟩),
  (⟨(.slot q55),.move (.t q4),none⟩,⟨0,0,0⟩),
  (⟨(.slot q65),.iaddr 1 (.t q45) (.t q55),none⟩,⟨0,0,0⟩),
  (⟨(.slot q75),.load false 1 (.t q65),none⟩,⟨1,0,0⟩),
  (⟨(.slot q06),.move (.t q1),none⟩,⟨0,0,0⟩),
  (⟨(.slot q16),.iaddr 4 (.t q75) (.t q06),none⟩,⟨0,0,0⟩),
  (⟨(.slot q26),.load true 4 (.t q16),none⟩,⟨1,0,0⟩),
  (⟨(.slot q36),.move (.t q1),none⟩,⟨0,0,0⟩),
  (⟨.drop,.call q644 [(.t q35),(.t q26),(.t q36)],none⟩,⟨3,0,1⟩)])
 (.seq (.seq (.reg (.gen ⟨(.slot q61),.len (.t q),none⟩
  (.sm q3 (.k (.int .i64 0))
  .fin)))
 (.block 4 (.loop (.seq (.regc (.pb .lss (.t q3) (.t q61)
  .fin) (.l x0) .skip (.exit 4))
 (.seq (.block 5 (.seq (.reg (.sm q0 (.t q3)
  .fin))
 (.regc (.pb .neq (.t q0) (.t q4)
  (.gen ⟨.push,.move (.t q),some ((.l x0),true)⟩
  (.gen ⟨.push,.move (.t q0),some ((.l x1),true)⟩
  (.gen ⟨.push,.iaddr 1 (.l x1) (.l x0),some ((.l x2),true)⟩
  (.gen ⟨.push,.load false 1 (.l x0),some ((.l x3),true)⟩
  (.gen ⟨.push,.move (.t q1),some ((.l x4),true)⟩
  (.gen ⟨.push,.iaddr 4 (.l x1) (.l x0),some ((.l x5),true)⟩
  (.gen ⟨.push,.load true 4 (.l x0),some ((.l x6),true)⟩
  (.gen ⟨.push,.call q773 [(.l x0)],some ((.l x7),true)⟩
  (.gen ⟨.push,.pick (.l x8) (.l x0) (.k (.bool false)),none⟩
  .fin)))))))))) (.l x0) (.regd [(⟨(.slot q5),.move (.t q),none⟩,⟨0,0,1⟩),
  (⟨(.slot q6),.move (.t q0),none⟩,⟨0,0,1⟩),
  (⟨(.slot q7),.iaddr 1 (.t q5) (.t q6),none⟩,⟨0,0,1⟩),
  (⟨(.slot q00),.load false 1 (.t q7),none⟩,⟨1,0,1⟩),
  (⟨(.slot q10),.move (.t q),none⟩,⟨0,0,1⟩),
  (⟨(.slot q20),.move (.t q4),none⟩,⟨0,0,1⟩),
  (⟨(.slot q30),.iaddr 1 (.t q10) (.t q20),none⟩,⟨0,0,1⟩),
  (⟨(.slot q40),.load false 1 (.t q30),none⟩,⟨1,0,1⟩),
  (⟨(.slot q50),.move (.t q),none⟩,⟨0,0,0⟩),
  (⟨(.slot q60),.move (.t q0),none⟩,⟨0,0,0⟩),
  (⟨(.slot q70),.iaddr 1 (.t q50) (.t q60),none⟩,⟨0,0,0⟩),
  (⟨(.slot q01),.load false 1 (.t q70),none⟩,⟨1,0,0⟩),
  (⟨(.slot q11),.move (.t q1),none⟩,⟨0,0,0⟩),
  (⟨(.slot q21),.iaddr 4 (.t q01) (.t q11),none⟩,⟨0,0,0⟩),
  (⟨(.slot q31),.load true 4 (.t q21),none⟩,⟨1,0,0⟩),
  (⟨(.slot q41),.call q551 [(.t q31)],none⟩,⟨3,0,1⟩),
  (⟨(.slot q51),.move (.t q1),none⟩,⟨0,0,1⟩),
  (⟨.drop,.call q004 [(.t q00),(.t q40),(.t q41),(.t q51)],none⟩,⟨3,1,2⟩)]) .skip)))
 (.reg (.pb .add (.t q3) (.k (.int .i64 1))
  (.sm q3 (.l x0)
  .fin))))))))
 (.reg (.gen ⟨.push,.bsl 1 1 [(.int .i64 0)] [(0,(.t q1))],none⟩
  (.gen ⟨.push,.append 1 8 (.t q71) (.l x0),none⟩
  (.sm q71 (.l x0)
  .fin))))))))))))
 (.reg (.pb .add (.t q1) (.k (.int .i64 1))
  (.sm q1 (.l x0)
  .fin))))))))
 (.seq (.regd [(⟨(.slot q76),.move (.t q71),none⟩,⟨0,0,0⟩),
  (⟨(.slot q07),.load true 4 (.t q02),none⟩,⟨1,0,0⟩),
  (⟨(.slot q56),.move (.t q76),none⟩,⟨0,0,0⟩),
  (⟨.drop,.store 4 (.t q66) (.t q07),none⟩,⟨3,0,1⟩)])
 .ret))))),[(q56,none),(q66,some (true,4))],[]⟩
def c238 : CFn := ⟨[some q30],(.seq (.reg (.sm q20 (.k .snil)
  .fin))
 (.seq (.reg (.pca q472 [(.t q30),(.t q30)]
  (.sm q00 (.l x0)
  .fin)))
 (.seq (.seq (.reg (.gen ⟨(.slot q10),.len (.t q00),none⟩
  (.sm q (.k (.int .i64 0))
  .fin)))
 (.block 0 (.loop (.seq (.regc (.pb .lss (.t q) (.t q10)
  .fin) (.l x0) .skip (.exit 0))
 (.seq (.block 1 (.seq (.reg (.sm q0 (.t q)
  .fin))
 (.regd [(⟨(.slot q1),.move (.t q00),none⟩,⟨0,0,1⟩),
  (⟨(.slot q2),.move (.t q0),none⟩,⟨0,0,1⟩),
  (⟨(.slot q3),.iaddr 1 (.t q1) (.t q2),none⟩,⟨0,0,1⟩),
  (⟨(.slot q4),.load false 1 (.t q3),none⟩,⟨1,0,1⟩),
  (⟨(.slot q5),.move (.t q0),none⟩,⟨0,0,1⟩),
  (⟨(.slot q6),.call q24 [(.k (.int .i64 1))],none⟩,⟨3,0,1⟩),
  (⟨(.slot q7),.iaddr 4 (.t q4) (.t q5),none⟩,⟨0,1,1⟩),
  (⟨.drop,.store 4 (.t q7) (.t q6),none⟩,⟨3,1,2⟩)])))
 (.reg (.pb .add (.t q) (.k (.int .i64 1))
  (.sm q (.l x0)
  .fin))))))))
 (.seq (.reg (.sm q20 (.t q00)
  .fin))
 .ret)))),[(q20,none)],[]⟩
def c239 : CFn := ⟨[some q6,some q5],(.seq (.reg (.sm q00 (.k .snil)
  .fin))
 (.seq (.block 0 (.loop (.seq (.regc (.pln (.t q5)
  (.pb .gtr (.l x0) (.k (.int .i64 0))
  .fin)) (.l x0) .skip (.exit 0))
 (.block 1 (.seq (.regc (.pln (.t q6)
  (.pb .leq (.l x0) (.k (.int .i64 2))
  (.gen ⟨.push,.move (.t q5),some ((.l x0),true)⟩
  (.gen ⟨.push,.len (.l x0),some ((.l x1),true)⟩
  (.gen ⟨.push,.bin .leq (.l x0) (.k (.int .i64 2)),some ((.l x2),true)⟩
  (.gen ⟨.push,.pick (.l x3) (.l x0) (.k (.bool false)),none⟩
  .fin)))))) (.l x0) (.seq (.reg (.pca q744 [(.t q6)]
  (.pca q744 [(.t q5)]
  (.sm q0 (.l x1)
  (.sm q (.l x0)
  .fin)))))
 (.seq (.block 2 (.loop (.seq (.regc (.pb .neq (.t q) (.k (.int .u64 0))
  .fin) (.l x0) .skip (.exit 2))
 (.block 3 (.regd [(⟨(.slot q1),.move (.t q),none⟩,⟨0,0,0⟩),
  (⟨(.slot q2),.move (.t q0),none⟩,⟨0,0,0⟩),
  (⟨(.slot q3),.move (.t q),none⟩,⟨0,0,0⟩),
  (⟨(.slot q4),.bin .rem (.t q2) (.t q3),none⟩,⟨0,0,0⟩),
  (⟨(.slot q0),.move (.t q1),none⟩,⟨0,0,0⟩),
  (⟨(.slot q),.move (.t q4),none⟩,⟨0,0,0⟩)])))))
 (.seq (.reg (.pca q122 [(.t q0)]
  (.sm q00 (.l x0)
  .fin)))
 .ret))) .skip)
 (.seq (.reg (.pca q054 [(.t q6),(.t q5)]
  (.pex (.l x0) 0
  (.pex (.l x1) 1
  (.sm q7 (.l x0)
  .fin)))))
 (.reg (.gen ⟨.push,.move (.t q7),none⟩
  (.sm q6 (.t q5)
  (.sm q5 (.l x0)
  .fin))))))))))
 (.seq (.reg (.pca q131 [(.t q6)]
  (.sm q00 (.l x0)
  .fin)))
 .ret))),[(q00,none)],[]⟩
def c240 : CFn := ⟨[some q7,some q00],(.seq (.reg (.gen ⟨(.slot q0),.box (.t q7),none⟩
  (.gen ⟨(.slot q6),.box (.t q00),none⟩
  (.gen ⟨(.slot q1),.box (.k (.agg [(.bool false),.snil])),none⟩
  (.gen ⟨(.slot q2),.box (.k (.agg [(.bool false),.snil])),none⟩
  (.sm q3 (.k (.int .i64 0))
  .fin))))))
 (.seq (.reg (.pfa 1 (.t q6)
  (.pld false 1 (.l x0)
  (.pca q231 [(.l x0)]
  (.sm q4 (.l x0)
  .fin)))))
 (.seq (.regc (.pln (.t q4)
  (.pb .eql (.l x0) (.k (.int .i64 0))
  .fin)) (.l x0) (.seq (.reg (.gen ⟨.push,.build [(.bool false),.snil] [],none⟩
  (.gen ⟨.push,.build [(.bool false),.snil] [],none⟩
  (.st 2 (.t q1) (.l x1)
  (.st 2 (.t q2) (.l x0)
  (.sm q3 (.k (.int .i64 5))
  .fin))))))
 .ret) .skip)
 (.seq (.reg (.pfa 1 (.t q0)
  (.pld false 1 (.l x0)
  (.pca q231 [(.l x0)]
  (.pca q054 [(.l x0),(.t q4)]
  (.pex (.l x0) 0
  (.pex (.l x1) 1
  (.sm q5 (.l x1)
  (.sm q (.l x0)
  .fin)))))))))
 (.seq (.regc (.pfa 0 (.t q0)
  (.pld false 1 (.l x0)
  (.gen ⟨.push,.move (.t q),some ((.l x0),true)⟩
  (.gen ⟨.push,.len (.l x0),some ((.l x1),true)⟩
  (.gen ⟨.push,.bin .gtr (.l x0) (.k (.int .i64 0)),some ((.l x2),true)⟩
  (.gen ⟨.push,.pick (.l x3) (.l x0) (.k (.bool false)),none⟩
  .fin)))))) (.l x0) (.reg (.gen ⟨.push,.bsl 1 1 [(.int .u32 0)] [(0,(.k (.int .u32 1)))],none⟩
  (.pca q463 [(.t q5),(.l x0)]
  (.pca q663 [(.t q4),(.t q)]
  (.sm q5 (.l x1)
  (.sm q (.l x0)
  .fin)))))) .skip)
 (.seq (.reg (.pfa 0 (.t q0)
  (.pld false 1 (.l x0)
  (.pfa 0 (.t q6)
  (.pld false 1 (.l x0)
  (.gen ⟨.push,.cmp 0 .neq (.l x2) (.l x0),none⟩
  (.pca q031 [(.l x0),(.t q5)]
  (.pca q031 [(.k (.bool false)),(.t q)]
  (.st 2 (.t q1) (.l x1)
  (.st 2 (.t q2) (.l x0)
  (.sm q3 (.k (.int .i64 0))
  .fin)))))))))))
 .ret)))))),[(q1,some (true,2)),(q2,some (true,2)),(q3,none)],[]⟩
def c241 : CFn := ⟨[some q30],(.seq (.reg (.gen ⟨(.slot q3),.box (.t q30),none⟩
  (.sm q4 (.k .snil)
  (.sm q5 (.k (.int .i64 0))
  .fin))))
 (.seq (.seq (.reg (.pld true 2 (.t q3)
  (.pca q531 [(.l x0)]
  (.sm q6 (.l x0)
  .fin))))
 (.regc (.pb .neq (.t q6) (.k (.int .i64 0))
  .fin) (.l x0) (.seq (.reg (.gen ⟨.push,.move (.t q6),none⟩
  (.sm q4 (.k .snil)
  (.sm q5 (.l x0)
  .fin))))
 .ret) .skip))
 (.seq (.regc (.pfa 1 (.t q3)
  (.pld false 1 (.l x0)
  (.pb .eql (.l x0) (.k (.int .i64 0))
  .fin))) (.l x0) (.seq (.reg (.sm q4 (.k .snil)
  (.sm q5 (.k (.int .i64 5))
  .fin)))
 .ret) .skip)
 (.seq (.reg (.sm q2 (.k .snil)
  .fin))
 (.seq (.seq (.regd [(⟨(.slot q7),.faddr 0 (.t q3),none⟩,⟨0,0,0⟩),
  (⟨(.slot q00),.load false 1 (.t q7),none⟩,⟨1,0,0⟩),
  (⟨(.slot q10),.faddr 1 (.t q3),none⟩,⟨0,0,0⟩),
  (⟨(.slot q20),.load false 1 (.t q10),none⟩,⟨1,0,0⟩),
  (⟨(.slot q1),.move (.t q00),none⟩,⟨0,0,0⟩),
  (⟨(.slot q),.move (.t q20),none⟩,⟨0,0,0⟩)])
 (.block 0 (.loop (.seq (.regc (.pb .neq (.t q) (.k (.int .i64 0))
  .fin) (.l x0) .skip (.exit 0))
 (.block 1 (.seq (.reg (.pb .rem (.t q1) (.t q)
  (.sm q0 (.l x0)
  .fin)))
 (.seq (.regc (.pb .lss (.t q0) (.k (.int .i64 0))
  .fin) (.l x0) (.reg (.pb .add (.t q0) (.t q)
  (.sm q0 (.l x0)
  .fin))) .skip)
 (.seq (.reg (.pb .sub (.t q1) (.t q0)
  (.pb .quo (.l x0) (.t q)
  (.gen ⟨.push,.bsl 1 1 [(.int .i64 0)] [(0,(.l x0))],none⟩
  (.gen ⟨.push,.append 1 8 (.t q2) (.l x0),none⟩
  (.sm q2 (.l x0)
  .fin))))))
 (.reg (.gen ⟨.push,.move (.t q0),none⟩
  (.sm q1 (.t q)
  (.sm q (.l x0)
  .fin))))))))))))
 (.seq (.reg (.sm q4 (.t q2)
  (.sm q5 (.k (.int .i64 0))
  .fin)))
 .ret)))))),[(q4,none),(q5,none)],[]⟩
def c242 : CFn := ⟨[some q52],(.seq (.reg (.sm q5 (.k .snil)
  (.sm q6 (.k (.int .i64 0))
  .fin)))
 (.seq (.regc (.pln (.t q52)
  (.pb .eql (.l x0) (.k (.int .i64 0))
  .fin)) (.l x0) (.seq (.reg (.sm q5 (.k .snil)
  (.sm q6 (.k (.int .i64 3))
  .fin)))
 .ret) .skip)
 (.seq (.regc (.pln (.t q52)
  (.pb .gtr (.l x0) (.k (.int .i64 64))
  .fin)) (.l x0) (.seq (.reg (.sm q5 (.k .snil)
  (.sm q6 (.k (.int .i64 2))
  .fin)))
 .ret) .skip)
 (.seq (.seq (.reg (.sm q12 (.t q52)
  (.gen ⟨(.slot q32),.len (.t q12),none⟩
  (.sm q0 (.k (.int .i64 0))
  .fin))))
 (.block 0 (.loop (.seq (.regc (.pb .lss (.t q0) (.t q32)
  .fin) (.l x0) .skip (.exit 0))
 (.seq (.block 1 (.seq (.reg (.pia 1 (.t q12) (.t q0)
  (.pld false 1 (.l x0)
  (.sm q00 (.t q0)
  (.sm q3 (.l x0)
  .fin)))))
 (.regc (.pca q154 [(.t q3)]
  (.gen ⟨.push,.un .not (.l x0),none⟩
  (.gen ⟨.push,.move (.t q00),some ((.l x0),false)⟩
  (.gen ⟨.push,.bin .gtr (.l x0) (.k (.int .i64 0)),some ((.l x1),false)⟩
  (.gen ⟨.push,.move (.l x0),some ((.l x2),false)⟩
  (.gen ⟨.push,.move (.t q3),some ((.l x0),true)⟩
  (.gen ⟨.push,.bin .lss (.l x0) (.k (.int .i64 1)),some ((.l x1),true)⟩
  (.gen ⟨.push,.pick (.l x2) (.l x0) (.k (.bool false)),some ((.l x5),false)⟩
  (.gen ⟨.push,.pick (.l x6) (.k (.bool true)) (.l x0),none⟩
  .fin))))))))) (.l x0) (.seq (.reg (.sm q5 (.k .snil)
  (.sm q6 (.k (.int .i64 2))
  .fin)))
 .ret) .skip)))
 (.reg (.pb .add (.t q0) (.k (.int .i64 1))
  (.sm q0 (.l x0)
  .fin))))))))
 (.seq (.reg (.sm q7 (.k .snil)
  .fin))
 (.seq (.reg (.gen ⟨.push,.build [(.int .i64 0),(.int .i64 0)] [(0,1,(.k (.int .i64 0))),(1,1,(.k (.int .i64 1)))],none⟩
  (.gen ⟨.push,.build [(.int .i64 0),(.int .i64 0)] [(0,1,(.k (.int .i64 1))),(1,1,(.k (.int .i64 0)))],none⟩
  (.gen ⟨(.slot q2),.box (.k (.agg [(.int .i64 0),(.int .i64 0)])),none⟩
  (.gen ⟨(.slot q),.box (.k (.agg [(.int .i64 0),(.int .i64 0)])),none⟩
  (.st 2 (.t q2) (.l x1)
  (.st 2 (.t q) (.l x0)
  .fin)))))))
 (.seq (.seq (.reg (.sm q22 (.t q52)
  (.gen ⟨(.slot q42),.len (.t q22),none⟩
  (.sm q1 (.k (.int .i64 0))
  .fin))))
 (.block 2 (.loop (.seq (.regc (.pb .lss (.t q1) (.t q42)
  .fin) (.l x0) .skip (.exit 2))
 (.seq (.block 3 (.seq (.reg (.pia 1 (.t q22) (.t q1)
  (.pld false 1 (.l x0)
  (.sm q4 (.l x0)
  .fin))))
 (.seq (.regd [(⟨(.slot q10),.load true 2 (.t q),none⟩,⟨1,0,0⟩),
  (⟨(.slot q20),.move (.t q4),none⟩,⟨0,0,1⟩),
  (⟨(.slot q30),.faddr 0 (.t q),none⟩,⟨0,0,1⟩),
  (⟨(.slot q40),.load false 1 (.t q30),none⟩,⟨1,0,1⟩),
  (⟨(.slot q50),.bin .mul (.t q20) (.t q40),none⟩,⟨0,0,1⟩),
  (⟨(.slot q60),.faddr 0 (.t q2),none⟩,⟨0,0,0⟩),
  (⟨(.slot q70),.load false 1 (.t q60),none⟩,⟨1,0,0⟩),
  (⟨(.slot q01),.bin .add (.t q50) (.t q70),none⟩,⟨0,0,1⟩),
  (⟨(.slot q11),.move (.t q4),none⟩,⟨0,0,1⟩),
  (⟨(.slot q21),.faddr 1 (.t q),none⟩,⟨0,0,1⟩),
  (⟨(.slot q31),.load false 1 (.t q21),none⟩,⟨1,0,1⟩),
  (⟨(.slot q41),.bin .mul (.t q11) (.t q31),none⟩,⟨0,0,1⟩),
  (⟨(.slot q51),.faddr 1 (.t q2),none⟩,⟨0,0,0⟩),
  (⟨(.slot q61),.load false 1 (.t q51),none⟩,⟨1,0,0⟩),
  (⟨(.slot q71),.bin .add (.t q41) (.t q61),none⟩,⟨0,0,1⟩),
  (⟨(.slot q02),.build [(.int .i64 0),(.int .i64 0)] [(0,1,(.t q01)),(1,1,(.t q71))],none⟩,⟨0,0,1⟩),
  (⟨.drop,.store 2 (.t q2) (.t q10),none⟩,⟨3,0,1⟩),
  (⟨.drop,.store 2 (.t q) (.t q02),none⟩,⟨3,1,2⟩)])
 (.seq (.regc (.pfa 0 (.t q)
  (.pld false 1 (.l x0)
  (.pca q154 [(.l x0)]
  (.gen ⟨.push,.un .not (.l x0),none⟩
  (.gen ⟨.push,.faddr 1 (.t q),some ((.l x0),false)⟩
  (.gen ⟨.push,.load false 1 (.l x0),some ((.l x1),false)⟩
  (.gen ⟨.push,.call q154 [(.l x0)],some ((.l x2),false)⟩
  (.gen ⟨.push,.un .not (.l x0),some ((.l x3),false)⟩
  (.gen ⟨.push,.pick (.l x4) (.k (.bool true)) (.l x0),none⟩
  .fin))))))))) (.l x0) (.seq (.reg (.sm q5 (.k .snil)
  (.sm q6 (.k (.int .i64 7))
  .fin)))
 .ret) .skip)
 (.reg (.pld true 2 (.t q)
  (.gen ⟨.push,.bsl 2 1 [(.int .i64 0),(.int .i64 0)] [(0,(.l x0))],none⟩
  (.gen ⟨.push,.append 2 16 (.t q7) (.l x0),none⟩
  (.sm q7 (.l x0)
  .fin)))))))))
 (.reg (.pb .add (.t q1) (.k (.int .i64 1))
  (.sm q1 (.l x0)
  .fin))))))))
 (.seq (.reg (.sm q5 (.t q7)
  (.sm q6 (.k (.int .i64 0))
  .fin)))
 .ret)))))))),[(q5,none),(q6,none)],[]⟩
def c244 : CFn := ⟨[some q00,some q2],(.seq (.reg (.sm q10 (.k .snil)
  .fin))
 (.seq (.regc (.pln (.t q00)
  (.pln (.t q2)
  (.pb .lss (.l x1) (.l x0)
  .fin))) (.l x0) (.reg (.gen ⟨.push,.move (.t q00),none⟩
  (.sm q00 (.t q2)
  (.sm q2 (.l x0)
  .fin)))) .skip)
 (.seq (.reg (.pln (.t q00)
  (.pb .add (.l x0) (.k (.int .i64 1))
  (.gen ⟨.push,.mksl 1 4 [(.int .u32 0)] (.l x0) (.l x0),none⟩
  (.sm q5 (.l x0)
  .fin)))))
 (.seq (.reg (.sm q3 (.k (.int .u32 0))
  .fin))
 (.seq (.seq (.reg (.sm q6 (.t q00)
  (.gen ⟨(.slot q7),.len (.t q6),none⟩
  (.sm q (.k (.int .i64 0))
  .fin))))
 (.block 0 (.loop (.seq (.regc (.pb .lss (.t q) (.t q7)
  .fin) (.l x0) .skip (.exit 0))
 (.seq (.block 1 (.seq (.reg (.pia 1 (.t q6) (.t q)
  (.pld false 1 (.l x0)
  (.sm q0 (.t q)
  (.sm q4 (.l x0)
  .fin)))))
 (.seq (.reg (.sm q1 (.k (.int .u32 0))
  .fin))
 (.seq (.regc (.pln (.t q2)
  (.pb .lss (.t q0) (.l x0)
  .fin)) (.l x0) (.reg (.pia 1 (.t q2) (.t q0)
  (.pld false 1 (.l x0)
  (.sm q1 (.l x0)
  .fin)))) .skip)
 (.reg (.pca q254 [(.t q4),(.t q1),(.t q3)]
  (.pex (.l x0) 0
  (.pex (.l x1) 1
  (.pia 1 (.t q5) (.t q0)
  (.st 1 (.l x0) (.l x2)
  (.sm q3 (.l x1)
  .fin)))))))))))
 (.reg (.pb .add (.t q) (.k (.int .i64 1))
  (.sm q (.l x0)
  .fin))))))))
 (.seq (.reg (.pln (.t q00)
  (.pia 1 (.t q5) (.l x0)
  (.st 1 (.l x0) (.t q3)
  .fin))))
 (.seq (.reg (.sm q10 (.t q5)
  .fin))
 .ret))))))),[(q10,none)],[]⟩
def c245 : CFn := ⟨[some q1,some q2],(.seq (.reg (.sm q0 (.k (.int .i64 0))
  .fin))
 (.seq (.regc (.pln (.t q1)
  (.pln (.t q2)
  (.pb .neq (.l x1) (.l x0)
  .fin))) (.l x0) (.seq (.reg (.pln (.t q1)
  (.pln (.t q2)
  (.pb .sub (.l x1) (.l x0)
  (.pca q354 [(.l x0)]
  (.sm q0 (.l x0)
  .fin))))))
 .ret) .skip)
 (.seq (.seq (.reg (.pln (.t q1)
  (.pb .sub (.l x0) (.k (.int .i64 1))
  (.sm q (.l x0)
  .fin))))
 (.block 0 (.loop (.seq (.regc (.pb .geq (.t q) (.k (.int .i64 0))
  .fin) (.l x0) .skip (.exit 0))
 (.seq (.block 1 (.seq (.regd [(⟨(.slot q3),.move (.t q1),none⟩,⟨0,0,0⟩),
  (⟨(.slot q4),.move (.t q),none⟩,⟨0,0,0⟩),
  (⟨(.slot q5),.iaddr 1 (.t q3) (.t q4),none⟩,⟨0,0,0⟩),
  (⟨(.slot q6),.load false 1 (.t q5),none⟩,⟨1,0,0⟩),
  (⟨(.slot q7),.move (.t q2),none⟩,⟨0,0,0⟩),
  (⟨(.slot q00),.move (.t q),none⟩,⟨0,0,0⟩),
  (⟨(.slot q10),.iaddr 1 (.t q7) (.t q00),none⟩,⟨0,0,0⟩),
  (⟨(.slot q20),.load false 1 (.t q10),none⟩,⟨1,0,0⟩),
  (⟨(.slot q30),.bin .neq (.t q6) (.t q20),none⟩,⟨0,0,0⟩)])
 (.cond (.t q30) (.seq (.seq (.regd [(⟨(.slot q40),.move (.t q1),none⟩,⟨0,0,0⟩),
  (⟨(.slot q50),.move (.t q),none⟩,⟨0,0,0⟩),
  (⟨(.slot q60),.iaddr 1 (.t q40) (.t q50),none⟩,⟨0,0,0⟩),
  (⟨(.slot q70),.load false 1 (.t q60),none⟩,⟨1,0,0⟩),
  (⟨(.slot q01),.move (.t q2),none⟩,⟨0,0,0⟩),
  (⟨(.slot q11),.move (.t q),none⟩,⟨0,0,0⟩),
  (⟨(.slot q21),.iaddr 1 (.t q01) (.t q11),none⟩,⟨0,0,0⟩),
  (⟨(.slot q31),.load false 1 (.t q21),none⟩,⟨1,0,0⟩),
  (⟨(.slot q41),.bin .lss (.t q70) (.t q31),none⟩,⟨0,0,0⟩)])
 (.cond (.t q41) (.seq (.reg (.sm q0 (.k (.int .i64 (-1)))
  .fin))
 .ret) .skip))
 (.seq (.reg (.sm q0 (.k (.int .i64 1))
  .fin))
 .ret)) .skip)))
 (.reg (.pb .sub (.t q) (.k (.int .i64 1))
  (.sm q (.l x0)
  .fin))))))))
 (.seq (.reg (.sm q0 (.k (.int .i64 0))
  .fin))
 .ret)))),[(q0,none)],[]⟩
def c246 : CFn := ⟨[some q10,some q3],(.seq (.reg (.sm q00 (.k .snil)
  .fin))
 (.seq (.reg (.pln (.t q10)
  (.gen ⟨.push,.mksl 1 4 [(.int .u32 0)] (.l x0) (.l x0),none⟩
  (.sm q5 (.l x0)
  .fin))))
 (.seq (.reg (.sm q2 (.k (.int .u32 0))
  .fin))
 (.seq (.seq (.reg (.sm q6 (.t q10)
  (.gen ⟨(.slot q7),.len (.t q6),none⟩
  (.sm q (.k (.int .i64 0))
  .fin))))
 (.block 0 (.loop (.seq (.regc (.pb .lss (.t q) (.t q7)
  .fin) (.l x0) .skip (.exit 0))
 (.seq (.block 1 (.seq (.reg (.pia 1 (.t q6) (.t q)
  (.pld false 1 (.l x0)
  (.sm q0 (.t q)
  (.sm q4 (.l x0)
  .fin)))))
 (.seq (.reg (.sm q1 (.k (.int .u32 0))
  .fin))
 (.seq (.regc (.pln (.t q3)
  (.pb .lss (.t q0) (.l x0)
  .fin)) (.l x0) (.reg (.pia 1 (.t q3) (.t q0)
  (.pld false 1 (.l x0)
  (.sm q1 (.l x0)
  .fin)))) .skip)
 (.reg (.pca q454 [(.t q4),(.t q1),(.t q2)]
  (.pex (.l x0) 0
  (.pex (.l x1) 1
  (.pia 1 (.t q5) (.t q0)
  (.st 1 (.l x0) (.l x2)
  (.sm q2 (.l x1)
  .fin)))))))))))
 (.reg (.pb .add (.t q) (.k (.int .i64 1))
  (.sm q (.l x0)
  .fin))))))))
 (.seq (.reg (.sm q00 (.t q5)
  .fin))
 .ret))))),[(q00,none)],[]⟩
def c247 : CFn := ⟨[some q0],(.seq (.reg (.sm q23 (.k .snil)
  (.sm q33 (.k (.int .i64 0))
  .fin)))
 (.seq (.seq (.reg (.pca q554 [(.t q0)]
  (.sm q43 (.l x0)
  .fin)))
 (.regc (.pb .neq (.t q43) (.k (.int .i64 0))
  .fin) (.l x0) (.seq (.reg (.gen ⟨.push,.move (.t q43),none⟩
  (.sm q23 (.k .snil)
  (.sm q33 (.l x0)
  .fin))))
 .ret) .skip))
 (.seq (.reg (.sm q12 (.k .snil)
  .fin))
 (.seq (.seq (.reg (.sm q61 (.k (.int .i64 1))
  .fin))
 (.block 0 (.loop (.seq (.regc (.pb .leq (.t q61) (.t q0)
  .fin) (.l x0) .skip (.exit 0))
 (.seq (.block 1 (.regc (.pca q56 [(.t q61),(.t q0)]
  (.pb .eql (.l x0) (.k (.int .i64 1))
  .fin)) (.l x0) (.reg (.gen ⟨.push,.bsl 1 1 [(.int .i64 0)] [(0,(.t q61))],none⟩
  (.gen ⟨.push,.append 1 8 (.t q12) (.l x0),none⟩
  (.sm q12 (.l x0)
  .fin)))) .skip))
 (.reg (.pb .add (.t q61) (.k (.int .i64 1))
  (.sm q61 (.l x0)
  .fin))))))))
 (.seq (.reg (.sm q22 (.k .snil)
  .fin))
 (.seq (.reg (.pb .mul (.t q0) (.t q0)
  (.gen ⟨.push,.mksl 1 1 [(.bool false)] (.l x0) (.l x0),none⟩
  (.sm q41 (.l x0)
  .fin))))
 (.seq (.seq (.reg (.gen ⟨(.slot q13),.len (.t q41),none⟩
  (.sm q71 (.k (.int .i64 0))
  .fin)))
 (.block 2 (.loop (.seq (.regc (.pb .lss (.t q71) (.t q13)
  .fin) (.l x0) .skip (.exit 2))
 (.seq (.block 3 (.seq (.reg (.sm q02 (.t q71)
  .fin))
 (.seq (.regd [(⟨(.slot q32),.move (.t q02),none⟩,⟨0,0,0⟩),
  (⟨(.slot q42),.move (.t q0),none⟩,⟨0,0,0⟩),
  (⟨(.slot q52),.bin .quo (.t q32) (.t q42),none⟩,⟨0,0,0⟩),
  (⟨(.slot q62),.move (.t q02),none⟩,⟨0,0,0⟩),
  (⟨(.slot q72),.move (.t q0),none⟩,⟨0,0,0⟩),
  (⟨(.slot q03),.bin .rem (.t q62) (.t q72),none⟩,⟨0,0,0⟩),
  (⟨(.slot q11),.move (.t q52),none⟩,⟨0,0,0⟩),
  (⟨(.slot q21),.move (.t q03),none⟩,⟨0,0,0⟩)])
 (.seq (.regc (.pia 1 (.t q41) (.t q02)
  (.pld false 1 (.l x0)
  (.gen ⟨.push,.move (.t q11),some ((.l x0),false)⟩
  (.gen ⟨.push,.move (.t q21),some ((.l x1),false)⟩
  (.gen ⟨.push,.call q56 [(.l x1),(.l x0)],some ((.l x2),false)⟩
  (.gen ⟨.push,.move (.t q0),some ((.l x3),false)⟩
  (.gen ⟨.push,.call q56 [(.l x1),(.l x0)],some ((.l x4),false)⟩
  (.gen ⟨.push,.bin .neq (.l x0) (.k (.int .i64 1)),some ((.l x5),false)⟩
  (.gen ⟨.push,.pick (.l x6) (.k (.bool true)) (.l x0),none⟩
  .fin))))))))) (.l x0) (.exit 3) .skip)
 (.seq (.reg (.gen ⟨.push,.build [(.int .i64 0),(.int .i64 0),(.int .i64 0)] [(0,1,(.t q11)),(1,1,(.t q21)),(2,1,(.k (.int .i64 1)))],none⟩
  (.gen ⟨.push,.bsl 3 1 [(.int .i64 0),(.int .i64 0),(.int .i64 0)] [(0,(.l x0))],none⟩
  (.gen ⟨.push,.append 3 24 (.t q22) (.l x0),none⟩
  (.sm q22 (.l x0)
  .fin)))))
 (.seq (.reg (.sm q31 (.t q12)
  (.gen ⟨(.slot q51),.len (.t q31),none⟩
  (.sm q (.k (.int .i64 0))
  .fin))))
 (.block 4 (.loop (.seq (.regc (.pb .lss (.t q) (.t q51)
  .fin) (.l x0) .skip (.exit 4))
 (.seq (.block 5 (.seq (.reg (.pia 1 (.t q31) (.t q)
  (.pld false 1 (.l x0)
  (.sm q1 (.l x0)
  .fin))))
 (.regd [(⟨(.slot q2),.move (.t q41),none⟩,⟨0,0,0⟩),
  (⟨(.slot q3),.move (.t q1),none⟩,⟨0,0,0⟩),
  (⟨(.slot q4),.move (.t q11),none⟩,⟨0,0,0⟩),
  (⟨(.slot q5),.bin .mul (.t q3) (.t q4),none⟩,⟨0,0,0⟩),
  (⟨(.slot q6),.move (.t q0),none⟩,⟨0,0,0⟩),
  (⟨(.slot q7),.bin .rem (.t q5) (.t q6),none⟩,⟨0,0,0⟩),
  (⟨(.slot q00),.move (.t q0),none⟩,⟨0,0,0⟩),
  (⟨(.slot q10),.bin .mul (.t q7) (.t q00),none⟩,⟨0,0,0⟩),
  (⟨(.slot q20),.move (.t q1),none⟩,⟨0,0,0⟩),
  (⟨(.slot q30),.move (.t q21),none⟩,⟨0,0,0⟩),
  (⟨(.slot q40),.bin .mul (.t q20) (.t q30),none⟩,⟨0,0,0⟩),
  (⟨(.slot q50),.move (.t q0),none⟩,⟨0,0,0⟩),
  (⟨(.slot q60),.bin .rem (.t q40) (.t q50),none⟩,⟨0,0,0⟩),
  (⟨(.slot q70),.bin .add (.t q10) (.t q60),none⟩,⟨0,0,0⟩),
  (⟨(.slot q01),.iaddr 1 (.t q2) (.t q70),none⟩,⟨0,0,0⟩),
  (⟨.drop,.store 1 (.t q01) (.k (.bool true)),none⟩,⟨3,0,1⟩)])))
 (.reg (.pb .add (.t q) (.k (.int .i64 1))
  (.sm q (.l x0)
  .fin)))))))))))))
 (.reg (.pb .add (.t q71) (.k (.int .i64 1))
  (.sm q71 (.l x0)
  .fin))))))))
 (.seq (.reg (.sm q23 (.t q22)
  (.sm q33 (.k (.int .i64 0))
  .fin)))
 .ret)))))))),[(q23,none),(q33,none)],[]⟩
def c248 : CFn := ⟨[some q1,some q],(.seq (.reg (.sm q0 (.k (.int .i64 0))
  .fin))
 (.seq (.reg (.gen ⟨.push,.nilc (.t q1),none⟩
  (.pfa 0 (.l x0)
  (.pld false 1 (.l x0)
  (.pb .rem (.t q) (.l x0)
  (.sm q (.l x0)
  .fin))))))
 (.seq (.regc (.pb .lss (.t q) (.k (.int .i64 0))
  .fin) (.l x0) (.reg (.gen ⟨.push,.nilc (.t q1),none⟩
  (.pfa 0 (.l x0)
  (.pld false 1 (.l x0)
  (.pb .add (.t q) (.l x0)
  (.sm q (.l x0)
  .fin)))))) .skip)
 (.seq (.reg (.sm q0 (.t q)
  .fin))
 .ret)))),[(q0,none)],[]⟩
def c250 : CFn := ⟨[some q2,some q4],(.seq (.reg (.gen ⟨(.slot q3),.box (.t q4),none⟩
  (.sm q (.k (.int .i64 0))
  (.sm q0 (.k (.int .i64 0))
  .fin))))
 (.seq (.regc (.pca q501 [(.t q2)]
  (.gen ⟨.push,.un .not (.l x0),none⟩
  .fin)) (.l x0) (.seq (.reg (.sm q (.k (.int .i64 0))
  (.sm q0 (.k (.int .i64 2))
  .fin)))
 .ret) .skip)
 (.seq (.reg (.gen ⟨(.slot q1),.box (.k (.int .i64 0)),none⟩
  (.st 1 (.t q1) (.k (.int .i64 1))
  .fin)))
 (.seq (.reg (.gen ⟨.push,.mkfn q654 [(.t q1),(.t q3)],none⟩
  (.pca q601 [(.t q2),(.l x0)]
  .fin)))
 (.seq (.reg (.pld false 1 (.t q1)
  (.sm q (.l x0)
  (.sm q0 (.k (.int .i64 0))
  .fin))))
 .ret))))),[(q,none),(q0,none)],[]⟩
def c251 : CFn := ⟨[some q0,some q1],(.seq (.reg (.sm q (.k (.int .i64 0))
  .fin))
 (.seq (.reg (.pb .sub (.t q1) (.k (.int .i64 1))
  (.pca q441 [(.t q0),(.l x0)]
  (.pb .add (.t q0) (.k (.int .i64 1))
  (.pb .mul (.l x1) (.l x0)
  (.sm q (.l x0)
  .fin))))))
 .ret)),[(q,none)],[]⟩
def c252 : CFn := ⟨[some q4],(.seq (.reg (.gen ⟨(.slot q3),.box (.t q4),none⟩
  (.sm q1 (.k (.bool false))
  .fin)))
 (.seq (.seq (.reg (.pfa 0 (.t q3)
  (.pld false 1 (.l x0)
  (.pfa 1 (.t q3)
  (.pld false 1 (.l x0)
  (.pfa 2 (.t q3)
  (.pld false 1 (.l x0)
  (.pfa 3 (.t q3)
  (.pld false 1 (.l x0)
  (.gen ⟨(.slot q2),.build [(.int .i64 0),(.int .i64 0),(.int .i64 0),(.int .i64 0)] [(0,1,(.l x6)),(1,1,(.l x4)),(2,1,(.l x2)),(3,1,(.l x0))],none⟩
  (.sm q (.k (.int .i64 0))
  .fin)))))))))))
 (.block 0 (.loop (.seq (.regc (.pb .lss (.t q) (.k (.int .i64 4))
  .fin) (.l x0) .skip (.exit 0))
 (.seq (.block 1 (.seq (.reg (.gen ⟨.push,.idxA false 4 1 (.t q2) (.t q),none⟩
  (.sm q0 (.l x0)
  .fin)))
 (.regc (.pb .lss (.t q0) (.k (.int .i64 (-1073741824)))
  (.gen ⟨.push,.move (.t q0),some ((.l x0),false)⟩
  (.gen ⟨.push,.bin .gtr (.l x0) (.k (.int .i64 1073741824)),some ((.l x1),false)⟩
  (.gen ⟨.push,.pick (.l x2) (.k (.bool true)) (.l x0),none⟩
  .fin)))) (.l x0) (.seq (.reg (.sm q1 (.k (.bool true))
  .fin))
 .ret) .skip)))
 (.reg (.pb .add (.t q) (.k (.int .i64 1))
  (.sm q (.l x0)
  .fin))))))))
 (.seq (.reg (.sm q1 (.k (.bool false))
  .fin))
 .ret))),[(q1,none)],[]⟩
def c253 : CFn := ⟨[some q70,some q21],(.seq (.reg (.sm q31 (.k .snil)
  .fin))
 (.seq (.reg (.pln (.t q70)
  (.gen ⟨.push,.mksl 1 24 [.snil] (.l x0) (.l x0),none⟩
  (.sm q01 (.l x0)
  .fin))))
 (.seq (.seq (.reg (.gen ⟨(.slot q11),.len (.t q70),none⟩
  (.sm q (.k (.int .i64 0))
  .fin)))
 (.block 0 (.loop (.seq (.regc (.pb .lss (.t q) (.t q11)
  .fin) (.l x0) .skip (.exit 0))
 (.seq (.block 1 (.seq (.reg (.sm q0 (.t q)
  .fin))
 (.regd [(⟨(.slot q1),.move (.t q01),none⟩,⟨0,0,2⟩),
  (⟨(.slot q2),.move (.t q0),none⟩,⟨0,0,2⟩),
  (⟨(.slot q3),.bsl 4 0 [(.bool false),.snil,(.bool false),.snil] [],none⟩,⟨2,0,0⟩),
  (⟨(.slot q4),.move (.t q70),none⟩,⟨0,0,0⟩),
  (⟨(.slot q5),.move (.t q0),none⟩,⟨0,0,0⟩),
  (⟨(.slot q6),.iaddr 1 (.t q4) (.t q5),none⟩,⟨0,0,0⟩),
  (⟨(.slot q7),.load false 1 (.t q6),none⟩,⟨1,0,0⟩),
  (⟨(.slot q00),.append 4 64 (.t q3) (.t q7),none⟩,⟨3,0,1⟩),
  (⟨(.slot q10),.move (.t q21),none⟩,⟨0,0,1⟩),
  (⟨(.slot q20),.move (.t q0),none⟩,⟨0,0,1⟩),
  (⟨(.slot q30),.iaddr 1 (.t q10) (.t q20),none⟩,⟨0,0,1⟩),
  (⟨(.slot q40),.load false 1 (.t q30),none⟩,⟨1,0,1⟩),
  (⟨(.slot q50),.append 4 64 (.t q00) (.t q40),none⟩,⟨3,1,2⟩),
  (⟨(.slot q60),.iaddr 1 (.t q1) (.t q2),none⟩,⟨0,2,2⟩),
  (⟨.drop,.store 1 (.t q60) (.t q50),none⟩,⟨3,2,3⟩)])))
 (.reg (.pb .add (.t q) (.k (.int .i64 1))
  (.sm q (.l x0)
  .fin))))))))
 (.seq (.reg (.sm q31 (.t q01)
  .fin))
 .ret)))),[(q31,none)],[]⟩
def c254 : CFn := ⟨[some q4],(.seq (.reg (.sm q3 (.k .snil)
  .fin))
 (.seq (.reg (.gen ⟨.push,.mksl 4 64 [(.bool false),.snil,(.bool false),.snil] (.t q4) (.t q4),none⟩
  (.sm q1 (.l x0)
  .fin)))
 (.seq (.seq (.reg (.gen ⟨(.slot q2),.len (.t q1),none⟩
  (.sm q (.k (.int .i64 0))
  .fin)))
 (.block 0 (.loop (.seq (.regc (.pb .lss (.t q) (.t q2)
  .fin) (.l x0) .skip (.exit 0))
 (.seq (.block 1 (.seq (.reg (.sm q0 (.t q)
  .fin))
 (.reg (.pca q24 [(.k (.int .i64 0))]
  (.pia 4 (.t q1) (.t q0)
  (.st 4 (.l x0) (.l x1)
  .fin))))))
 (.reg (.pb .add (.t q) (.k (.int .i64 1))
  (.sm q (.l x0)
  .fin))))))))
 (.seq (.reg (.sm q3 (.t q1)
  .fin))
 .ret)))),[(q3,none)],[]⟩
def c255 : CFn := ⟨[some q1],(.seq (.reg (.gen ⟨(.slot q0),.box (.t q1),none⟩
  (.sm q (.k (.bool false))
  .fin)))
 (.seq (.reg (.pld true 4 (.t q0)
  (.pca q15 [(.l x0)]
  (.pb .neq (.l x0) (.k (.int .i64 0))
  (.sm q (.l x0)
  .fin)))))
 .ret)),[(q,none)],[]⟩
def c256 : CFn := ⟨[some q1,some q0,some q11,some q21],(.seq (.reg (.gen ⟨(.slot q01),.box (.t q11),none⟩
  .fin))
 (.seq (.reg (.sm q (.t q21)
  .fin))
 (.block 0 (.loop (.seq (.regc (.pln (.t q0)
  (.pb .lss (.t q) (.l x0)
  .fin)) (.l x0) .skip (.exit 0))
 (.seq (.block 1 (.regc (.pia 4 (.t q0) (.t q)
  (.pld true 4 (.l x0)
  (.pca q773 [(.l x0)]
  .fin))) (.l x0) (.regd [(⟨(.slot q2),.move (.t q1),none⟩,⟨0,0,2⟩),
  (⟨(.slot q3),.move (.t q),none⟩,⟨0,0,2⟩),
  (⟨(.slot q4),.move (.t q1),none⟩,⟨0,0,1⟩),
  (⟨(.slot q5),.move (.t q),none⟩,⟨0,0,1⟩),
  (⟨(.slot q6),.iaddr 4 (.t q4) (.t q5),none⟩,⟨0,0,1⟩),
  (⟨(.slot q7),.load true 4 (.t q6),none⟩,⟨1,0,1⟩),
  (⟨(.slot q00),.load true 4 (.t q01),none⟩,⟨1,0,0⟩),
  (⟨(.slot q10),.move (.t q0),none⟩,⟨0,0,0⟩),
  (⟨(.slot q20),.move (.t q),none⟩,⟨0,0,0⟩),
  (⟨(.slot q30),.iaddr 4 (.t q10) (.t q20),none⟩,⟨0,0,0⟩),
  (⟨(.slot q40),.load true 4 (.t q30),none⟩,⟨1,0,0⟩),
  (⟨(.slot q50),.call q75 [(.t q00),(.t q40)],none⟩,⟨3,0,1⟩),
  (⟨(.slot q60),.call q26 [(.t q7),(.t q50)],none⟩,⟨3,1,2⟩),
  (⟨(.slot q70),.iaddr 4 (.t q2) (.t q3),none⟩,⟨0,2,2⟩),
  (⟨.drop,.store 4 (.t q70) (.t q60),none⟩,⟨3,2,3⟩)]) .skip))
 (.reg (.pb .add (.t q) (.k (.int .i64 1))
  (.sm q (.l x0)
  .fin))))))))),[],[]⟩
def c257 : CFn := ⟨[some q77],(.seq (.reg (.gen ⟨(.slot q4),.box (.t q77),none⟩
  (.sm q27 (.k .pnil)
  (.sm q37 (.k (.int .i64 0))
  .fin))))
 (.seq (.seq (.reg (.pld true 3 (.t q4)
  (.pca q462 [(.l x0)]
  (.sm q47 (.l x0)
  .fin))))
 (.regc (.pb .neq (.t q47) (.k (.int .i64 0))
  .fin) (.l x0) (.seq (.reg (.gen ⟨.push,.move (.t q47),none⟩
  (.sm q27 (.k .pnil)
  (.sm q37 (.l x0)
  .fin))))
 .ret) .skip))
 (.seq (.reg (.pld true 3 (.t q4)
  (.gen ⟨.push,.build [(.int .i64 0),(.int .i64 0),(.int .i64 0),.snil,.snil,.snil,.snil,.snil] [(0,3,(.l x0))],none⟩
  (.gen ⟨.push,.box (.l x0),none⟩
  (.gen ⟨(.slot q),.box (.k .pnil),none⟩
  (.st 1 (.t q) (.l x0)
  .fin))))))
 (.seq (.seq (.reg (.sm q0 (.k (.int .i64 1))
  .fin))
 (.block 0 (.loop (.seq (.regc (.pfa 0 (.t q4)
  (.pld false 1 (.l x0)
  (.pb .leq (.t q0) (.l x0)
  .fin))) (.l x0) .skip (.exit 0))
 (.seq (.block 1 (.regc (.pfa 0 (.t q4)
  (.pld false 1 (.l x0)
  (.pca q56 [(.t q0),(.l x0)]
  (.pb .eql (.l x0) (.k (.int .i64 1))
  .fin)))) (.l x0) (.seq (.regd [(⟨(.slot q6),.load false 1 (.t q),none⟩,⟨1,0,1⟩),
  (⟨(.slot q7),.load false 1 (.t q),none⟩,⟨1,0,0⟩),
  (⟨(.slot q00),.nilc (.t q7),none⟩,⟨0,0,0⟩),
  (⟨(.slot q10),.faddr 6 (.t q00),none⟩,⟨0,0,0⟩),
  (⟨(.slot q20),.load false 1 (.t q10),none⟩,⟨1,0,0⟩),
  (⟨(.slot q30),.move (.t q0),none⟩,⟨0,0,0⟩),
  (⟨(.slot q40),.bsl 1 1 [(.int .i64 0)] [(0,(.t q30))],none⟩,⟨2,0,0⟩),
  (⟨(.slot q50),.append 1 8 (.t q20) (.t q40),none⟩,⟨3,0,1⟩),
  (⟨(.slot q60),.nilc (.t q6),none⟩,⟨0,1,1⟩),
  (⟨(.slot q70),.faddr 6 (.t q60),none⟩,⟨0,1,1⟩),
  (⟨.drop,.store 1 (.t q70) (.t q50),none⟩,⟨3,1,2⟩)])
 (.regd [(⟨(.slot q01),.load false 1 (.t q),none⟩,⟨1,0,2⟩),
  (⟨(.slot q11),.load false 1 (.t q),none⟩,⟨1,0,1⟩),
  (⟨(.slot q21),.nilc (.t q11),none⟩,⟨0,0,1⟩),
  (⟨(.slot q31),.faddr 7 (.t q21),none⟩,⟨0,0,1⟩),
  (⟨(.slot q41),.load false 1 (.t q31),none⟩,⟨1,0,1⟩),
  (⟨(.slot q51),.faddr 2 (.t q4),none⟩,⟨0,0,0⟩),
  (⟨(.slot q61),.load false 1 (.t q51),none⟩,⟨1,0,0⟩),
  (⟨(.slot q71),.move (.t q0),none⟩,⟨0,0,0⟩),
  (⟨(.slot q02),.call q66 [(.t q61),(.t q71)],none⟩,⟨3,0,1⟩),
  (⟨(.slot q12),.bsl 1 1 [(.int .i64 0)] [(0,(.t q02))],none⟩,⟨2,1,1⟩),
  (⟨(.slot q22),.append 1 8 (.t q41) (.t q12),none⟩,⟨3,1,2⟩),
  (⟨(.slot q32),.nilc (.t q01),none⟩,⟨0,2,2⟩),
  (⟨(.slot q42),.faddr 7 (.t q32),none⟩,⟨0,2,2⟩),
  (⟨.drop,.store 1 (.t q42) (.t q22),none⟩,⟨3,2,3⟩)])) .skip))
 (.reg (.pb .add (.t q0) (.k (.int .i64 1))
  (.sm q0 (.l x0)
  .fin))))))))
 (.seq (.reg (.pfa 0 (.t q4)
  (.pld false 1 (.l x0)
  (.pca q754 [(.l x0)]
  (.pex (.l x0) 0
  (.pex (.l x1) 1
  (.sm q57 (.l x1)
  (.sm q67 (.l x0)
  .fin))))))))
 (.seq (.regc (.pb .neq (.t q67) (.k (.int .i64 0))
  .fin) (.l x0) (.seq (.reg (.gen ⟨.push,.move (.t q67),none⟩
  (.sm q27 (.k .pnil)
  (.sm q37 (.l x0)
  .fin))))
 .ret) .skip)
 (.seq (.reg (.pld false 1 (.t q)
  (.gen ⟨.push,.nilc (.l x0),none⟩
  (.pfa 3 (.l x0)
  (.st 1 (.l x0) (.t q57)
  .fin)))))
 (.seq (.seq (.reg (.sm q07 (.t q57)
  (.gen ⟨(.slot q17),.len (.t q07),none⟩
  (.sm q2 (.k (.int .i64 0))
  .fin))))
 (.block 2 (.loop (.seq (.regc (.pb .lss (.t q2) (.t q17)
  .fin) (.l x0) .skip (.exit 2))
 (.seq (.block 3 (.seq (.reg (.pia 2 (.t q07) (.t q2)
  (.pld true 2 (.l x0)
  (.gen ⟨(.slot q3),.box (.k (.agg [(.int .i64 0),(.int .i64 0)])),none⟩
  (.st 2 (.t q3) (.l x0)
  .fin)))))
 (.seq (.reg (.gen ⟨(.slot q1),.box (.k (.bool false)),none⟩
  (.st 1 (.t q1) (.k (.bool false))
  .fin)))
 (.seq (.seq (.reg (.gen ⟨(.slot q52),.mkfn q064 [(.t q),(.t q3)],none⟩
  .fin))
 (.block 4 (.rangeF (.t q52) [q62] (.reg (.sm q5 (.t q62)
  .fin)) (.block 5 (.reg (.pld false 1 (.t q1)
  (.gen ⟨.push,.move (.t q5),some ((.l x0),false)⟩
  (.gen ⟨.push,.bin .lss (.l x0) (.k (.int .i64 0)),some ((.l x1),false)⟩
  (.gen ⟨.push,.pick (.l x2) (.k (.bool true)) (.l x0),none⟩
  (.st 1 (.t q1) (.l x0)
  .fin))))))))))
 (.seq (.regc (.pld false 1 (.t q1)
  .fin) (.l x0) (.seq (.regd [(⟨(.slot q72),.load false 1 (.t q),none⟩,⟨1,0,1⟩),
  (⟨(.slot q03),.load false 1 (.t q),none⟩,⟨1,0,0⟩),
  (⟨(.slot q13),.nilc (.t q03),none⟩,⟨0,0,0⟩),
  (⟨(.slot q23),.faddr 4 (.t q13),none⟩,⟨0,0,0⟩),
  (⟨(.slot q33),.load false 1 (.t q23),none⟩,⟨1,0,0⟩),
  (⟨(.slot q43),.bsl 1 1 [(.int .i64 0)] [(0,(.k (.int .i64 (-1))))],none⟩,⟨2,0,0⟩),
  (⟨(.slot q53),.append 1 8 (.t q33) (.t q43),none⟩,⟨3,0,1⟩),
  (⟨(.slot q63),.nilc (.t q72),none⟩,⟨0,1,1⟩),
  (⟨(.slot q73),.faddr 4 (.t q63),none⟩,⟨0,1,1⟩),
  (⟨.drop,.store 1 (.t q73) (.t q53),none⟩,⟨3,1,2⟩)])
 (.exit 3)) .skip)
 (.seq (.regd [(⟨(.slot q04),.load false 1 (.t q),none⟩,⟨1,0,1⟩),
  (⟨(.slot q14),.load false 1 (.t q),none⟩,⟨1,0,0⟩),
  (⟨(.slot q24),.nilc (.t q14),none⟩,⟨0,0,0⟩),
  (⟨(.slot q34),.faddr 4 (.t q24),none⟩,⟨0,0,0⟩),
  (⟨(.slot q44),.load false 1 (.t q34),none⟩,⟨1,0,0⟩),
  (⟨(.slot q54),.load false 1 (.t q),none⟩,⟨1,0,0⟩),
  (⟨(.slot q64),.nilc (.t q54),none⟩,⟨0,0,0⟩),
  (⟨(.slot q74),.faddr 5 (.t q64),none⟩,⟨0,0,0⟩),
  (⟨(.slot q05),.load false 1 (.t q74),none⟩,⟨1,0,0⟩),
  (⟨(.slot q15),.len (.t q05),none⟩,⟨0,0,0⟩),
  (⟨(.slot q25),.bsl 1 1 [(.int .i64 0)] [(0,(.t q15))],none⟩,⟨2,0,0⟩),
  (⟨(.slot q35),.append 1 8 (.t q44) (.t q25),none⟩,⟨3,0,1⟩),
  (⟨(.slot q45),.nilc (.t q04),none⟩,⟨0,1,1⟩),
  (⟨(.slot q55),.faddr 4 (.t q45),none⟩,⟨0,1,1⟩),
  (⟨.drop,.store 1 (.t q55) (.t q35),none⟩,⟨3,1,2⟩)])
 (.regd [(⟨(.slot q65),.load false 1 (.t q),none⟩,⟨1,0,1⟩),
  (⟨(.slot q75),.load false 1 (.t q),none⟩,⟨1,0,0⟩),
  (⟨(.slot q06),.nilc (.t q75),none⟩,⟨0,0,0⟩),
  (⟨(.slot q16),.faddr 5 (.t q06),none⟩,⟨0,0,0⟩),
  (⟨(.slot q26),.load false 1 (.t q16),none⟩,⟨1,0,0⟩),
  (⟨(.slot q36),.load true 2 (.t q3),none⟩,⟨1,0,0⟩),
  (⟨(.slot q46),.bsl 2 1 [(.int .i64 0),(.int .i64 0)] [(0,(.t q36))],none⟩,⟨2,0,0⟩),
  (⟨(.slot q56),.append 2 16 (.t q26) (.t q46),none⟩,⟨3,0,1⟩),
  (⟨(.slot q66),.nilc (.t q65),none⟩,⟨0,1,1⟩),
  (⟨(.slot q76),.faddr 5 (.t q66),none⟩,⟨0,1,1⟩),
  (⟨.drop,.store 1 (.t q76) (.t q56),none⟩,⟨3,1,2⟩)])))))))
 (.reg (.pb .add (.t q2) (.k (.int .i64 1))
  (.sm q2 (.l x0)
  .fin))))))))
 (.seq (.reg (.pld false 1 (.t q)
  (.sm q27 (.l x0)
  (.sm q37 (.k (.int .i64 0))
  .fin))))
 .ret))))))))),[(q27,none),(q37,none)],[]⟩
def c258 : CFn := ⟨[some q72,some q2],(.seq (.reg (.gen ⟨(.slot q5),.box (.t q72),none⟩
  (.gen ⟨(.slot q),.box (.k (.agg [(.int .i64 0),(.int .i64 0),(.int .i64 0)])),none⟩
  (.sm q0 (.k (.int .i64 0))
  .fin))))
 (.seq (.reg (.pld true 3 (.t q5)
  (.pca q352 [(.l x0)]
  (.pex (.l x0) 0
  (.pex (.l x1) 1
  (.sm q1 (.l x1)
  (.sm q4 (.l x0)
  .fin)))))))
 (.seq (.regc (.pb .neq (.t q4) (.k (.int .i64 0))
  .fin) (.l x0) (.seq (.reg (.gen ⟨.push,.build [(.int .i64 0),(.int .i64 0),(.int .i64 0)] [],none⟩
  (.st 3 (.t q) (.l x0)
  (.sm q0 (.t q4)
  .fin))))
 .ret) .skip)
 (.seq (.regc (.pb .lss (.t q2) (.k (.int .i64 0))
  (.gen ⟨.push,.move (.t q2),some ((.l x0),false)⟩
  (.gen ⟨.push,.move (.t q1),some ((.l x1),false)⟩
  (.gen ⟨.push,.call q452 [(.l x0)],some ((.l x2),false)⟩
  (.gen ⟨.push,.bin .geq (.l x2) (.l x0),some ((.l x3),false)⟩
  (.gen ⟨.push,.pick (.l x4) (.k (.bool true)) (.l x0),none⟩
  .fin)))))) (.l x0) (.seq (.reg (.gen ⟨.push,.build [(.int .i64 0),(.int .i64 0),(.int .i64 0)] [],none⟩
  (.st 3 (.t q) (.l x0)
  (.sm q0 (.k (.int .i64 2))
  .fin))))
 .ret) .skip)
 (.seq (.regd [(⟨(.slot q6),.move (.t q1),none⟩,⟨0,0,0⟩),
  (⟨(.slot q7),.nilc (.t q6),none⟩,⟨0,0,0⟩),
  (⟨(.slot q00),.faddr 2 (.t q7),none⟩,⟨0,0,0⟩),
  (⟨(.slot q10),.load false 1 (.t q00),none⟩,⟨1,0,0⟩),
  (⟨(.slot q20),.move (.t q2),none⟩,⟨0,0,0⟩),
  (⟨(.slot q30),.move (.t q1),none⟩,⟨0,0,0⟩),
  (⟨(.slot q40),.nilc (.t q30),none⟩,⟨0,0,0⟩),
  (⟨(.slot q50),.faddr 2 (.t q40),none⟩,⟨0,0,0⟩),
  (⟨(.slot q60),.load false 1 (.t q50),none⟩,⟨1,0,0⟩),
  (⟨(.slot q70),.len (.t q60),none⟩,⟨0,0,0⟩),
  (⟨(.slot q01),.bin .rem (.t q20) (.t q70),none⟩,⟨0,0,0⟩),
  (⟨(.slot q11),.iaddr 3 (.t q10) (.t q01),none⟩,⟨0,0,0⟩),
  (⟨(.slot q21),.load true 3 (.t q11),none⟩,⟨1,0,0⟩),
  (⟨(.slot q3),.box (.k (.agg [(.int .i64 0),(.int .i64 0),(.int .i64 0)])),none⟩,⟨2,0,0⟩),
  (⟨.drop,.store 3 (.t q3) (.t q21),none⟩,⟨3,0,1⟩)])
 (.seq (.regd [(⟨(.slot q31),.move (.t q2),none⟩,⟨0,0,0⟩),
  (⟨(.slot q41),.move (.t q1),none⟩,⟨0,0,0⟩),
  (⟨(.slot q51),.nilc (.t q41),none⟩,⟨0,0,0⟩),
  (⟨(.slot q61),.faddr 2 (.t q51),none⟩,⟨0,0,0⟩),
  (⟨(.slot q71),.load false 1 (.t q61),none⟩,⟨1,0,0⟩),
  (⟨(.slot q02),.len (.t q71),none⟩,⟨0,0,0⟩),
  (⟨(.slot q12),.bin .quo (.t q31) (.t q02),none⟩,⟨0,0,0⟩),
  (⟨(.slot q22),.faddr 0 (.t q3),none⟩,⟨0,0,0⟩),
  (⟨(.slot q32),.load false 1 (.t q22),none⟩,⟨1,0,0⟩),
  (⟨(.slot q42),.faddr 1 (.t q3),none⟩,⟨0,0,0⟩),
  (⟨(.slot q52),.load false 1 (.t q42),none⟩,⟨1,0,0⟩),
  (⟨(.slot q62),.build [(.int .i64 0),(.int .i64 0),(.int .i64 0)] [(0,1,(.t q12)),(1,1,(.t q32)),(2,1,(.t q52))],none⟩,⟨0,0,0⟩),
  (⟨.drop,.store 3 (.t q) (.t q62),none⟩,⟨3,0,1⟩),
  (⟨(.slot q0),.move (.k (.int .i64 0)),none⟩,⟨0,1,1⟩)])
 .ret)))))),[(q,some (true,3)),(q0,none)],[]⟩
def c259 : CFn := ⟨[some q3,some q4,some q5],(.seq (.reg (.sm q (.k (.int .i64 0))
  (.sm q0 (.k (.int .i64 0))
  .fin)))
 (.seq (.reg (.pca q264 [(.t q3),(.t q4),(.t q5)]
  (.pex (.l x0) 0
  (.pex (.l x1) 1
  (.gen ⟨(.slot q1),.box (.k (.agg [(.int .i64 0),(.int .i64 0),(.int .i64 0)])),none⟩
  (.st 3 (.t q1) (.l x1)
  (.sm q2 (.l x0)
  .fin)))))))
 (.seq (.regc (.pb .neq (.t q2) (.k (.int .i64 0))
  .fin) (.l x0) (.seq (.reg (.gen ⟨.push,.move (.t q2),none⟩
  (.sm q (.k (.int .i64 0))
  (.sm q0 (.l x0)
  .fin))))
 .ret) .skip)
 (.seq (.reg (.pld true 3 (.t q1)
  (.pca q364 [(.t q3),(.l x0)]
  (.sm q (.l x0)
  (.sm q0 (.k (.int .i64 0))
  .fin)))))
 .ret)))),[(q,none),(q0,none)],[]⟩
def c260 : CFn := ⟨[some q1,some q21],(.seq (.reg (.gen ⟨(.slot q2),.box (.k (.agg [(.int .i64 0),(.int .i64 0),(.int .i64 0),(.int .i64 0)])),none⟩
  (.sm q3 (.k (.int .i64 0))
  .fin)))
 (.seq (.reg (.pca q464 [(.t q1),(.t q21)]
  (.pex (.l x0) 0
  (.pex (.l x1) 1
  (.gen ⟨(.slot q0),.box (.k (.agg [(.int .i64 0),(.int .i64 0),(.int .i64 0)])),none⟩
  (.st 3 (.t q0) (.l x1)
  (.sm q4 (.l x0)
  .fin)))))))
 (.seq (.regc (.pb .neq (.t q4) (.k (.int .i64 0))
  .fin) (.l x0) (.seq (.reg (.gen ⟨.push,.build [(.int .i64 0),(.int .i64 0),(.int .i64 0),(.int .i64 0)] [],none⟩
  (.st 4 (.t q2) (.l x0)
  (.sm q3 (.t q4)
  .fin))))
 .ret) .skip)
 (.seq (.regc (.pfa 0 (.t q0)
  (.pld false 1 (.l x0)
  (.pb .eql (.l x0) (.k (.int .i64 0))
  .fin))) (.l x0) (.seq (.reg (.gen ⟨.push,.build [(.int .i64 0),(.int .i64 0),(.int .i64 0),(.int .i64 0)] [(0,1,(.k (.int .i64 1))),(3,1,(.k (.int .i64 1)))],none⟩
  (.st 4 (.t q2) (.l x0)
  (.sm q3 (.k (.int .i64 0))
  .fin))))
 .ret) .skip)
 (.seq (.reg (.pfa 1 (.t q0)
  (.pld false 1 (.l x0)
  (.sm q (.l x0)
  .fin))))
 (.seq (.block 0 (.loop (.seq (.regc (.pfa 0 (.t q0)
  (.pld false 1 (.l x0)
  (.pca q56 [(.t q),(.l x0)]
  (.pb .neq (.l x0) (.k (.int .i64 1))
  .fin)))) (.l x0) .skip (.exit 0))
 (.block 1 (.reg (.pb .add (.t q) (.t q1)
  (.sm q (.l x0)
  .fin)))))))
 (.seq (.reg (.pfa 0 (.t q0)
  (.pld false 1 (.l x0)
  (.pca q421 [(.t q),(.l x0)]
  (.pex (.l x0) 0
  (.pex (.l x1) 1
  (.sm q5 (.l x1)
  .fin)))))))
 (.seq (.regd [(⟨(.slot q6),.move (.t q5),none⟩,⟨0,0,0⟩),
  (⟨(.slot q7),.move (.t q5),none⟩,⟨0,0,0⟩),
  (⟨(.slot q00),.move (.t q),none⟩,⟨0,0,0⟩),
  (⟨(.slot q10),.bin .mul (.t q7) (.t q00),none⟩,⟨0,0,0⟩),
  (⟨(.slot q20),.bin .sub (.t q10) (.k (.int .i64 1)),none⟩,⟨0,0,0⟩),
  (⟨(.slot q30),.faddr 0 (.t q0),none⟩,⟨0,0,0⟩),
  (⟨(.slot q40),.load false 1 (.t q30),none⟩,⟨1,0,0⟩),
  (⟨(.slot q50),.bin .quo (.t q20) (.t q40),none⟩,⟨0,0,0⟩),
  (⟨(.slot q60),.faddr 0 (.t q0),none⟩,⟨0,0,0⟩),
  (⟨(.slot q70),.load false 1 (.t q60),none⟩,⟨1,0,0⟩),
  (⟨(.slot q01),.move (.t q),none⟩,⟨0,0,0⟩),
  (⟨(.slot q11),.build [(.int .i64 0),(.int .i64 0),(.int .i64 0),(.int .i64 0)] [(0,1,(.t q6)),(1,1,(.t q50)),(2,1,(.t q70)),(3,1,(.t q01))],none⟩,⟨0,0,0⟩),
  (⟨.drop,.store 4 (.t q2) (.t q11),none⟩,⟨3,0,1⟩),
  (⟨(.slot q3),.move (.k (.int .i64 0)),none⟩,⟨0,1,1⟩)])
 .ret)))))))),[(q2,some (true,4)),(q3,none)],[]⟩
def c261 : CFn := ⟨[some q70,some q1,some q01,some q11],(.seq (.reg (.gen ⟨(.slot q2),.box (.t q01),none⟩
  .fin))
 (.seq (.reg (.pld true 2 (.t q2)
  (.pca q564 [(.t q70),(.l x0)]
  (.pex (.l x0) 0
  (.pex (.l x1) 1
  (.sm q (.l x1)
  (.sm q0 (.l x0)
  .fin)))))))
 (.regc (.pb .neq (.t q0) (.k (.int .i64 0))
  .fin) (.l x0) (.regd [(⟨(.slot q3),.move (.t q1),none⟩,⟨0,0,2⟩),
  (⟨(.slot q4),.move (.t q),none⟩,⟨0,0,2⟩),
  (⟨(.slot q5),.move (.t q1),none⟩,⟨0,0,1⟩),
  (⟨(.slot q6),.move (.t q),none⟩,⟨0,0,1⟩),
  (⟨(.slot q7),.iaddr 4 (.t q5) (.t q6),none⟩,⟨0,0,1⟩),
  (⟨(.slot q00),.load true 4 (.t q7),none⟩,⟨1,0,1⟩),
  (⟨(.slot q10),.move (.t q11),none⟩,⟨0,0,0⟩),
  (⟨(.slot q20),.move (.t q0),none⟩,⟨0,0,0⟩),
  (⟨(.slot q30),.bin .mul (.t q10) (.t q20),none⟩,⟨0,0,0⟩),
  (⟨(.slot q40),.call q24 [(.t q30)],none⟩,⟨3,0,1⟩),
  (⟨(.slot q50),.call q26 [(.t q00),(.t q40)],none⟩,⟨3,1,2⟩),
  (⟨(.slot q60),.iaddr 4 (.t q3) (.t q4),none⟩,⟨0,2,2⟩),
  (⟨.drop,.store 4 (.t q60) (.t q50),none⟩,⟨3,2,3⟩)]) .skip))),[],[]⟩
def c263 : CFn := ⟨[some q1,some q2,some q3],(.seq (.reg (.gen ⟨(.slot q0),.box (.t q1),none⟩
  (.gen ⟨.push,.box (.t q2),none⟩
  (.gen ⟨(.slot q),.box (.k (.agg [(.bool false),.snil,(.bool false),.snil])),none⟩
  .fin))))
 (.seq (.reg (.pld true 4 (.t q0)
  (.pld true 4 (.t q3)
  (.pca q75 [(.l x1),(.l x0)]
  (.st 4 (.t q) (.l x0)
  .fin)))))
 .ret)),[(q,some (true,4))],[]⟩
def c264 : CFn := ⟨[some q5],(.seq (.reg (.gen ⟨(.slot q4),.box (.k (.agg [(.bool false),.snil])),none⟩
  .fin))
 (.seq (.reg (.gen ⟨(.slot q1),.box (.k (.agg [(.bool false),.snil])),none⟩
  .fin))
 (.seq (.seq (.reg (.sm q2 (.t q5)
  (.gen ⟨(.slot q3),.len (.t q2),none⟩
  (.sm q (.k (.int .i64 0))
  .fin))))
 (.block 0 (.loop (.seq (.regc (.pb .lss (.t q) (.t q3)
  .fin) (.l x0) .skip (.exit 0))
 (.seq (.block 1 (.seq (.reg (.pia 2 (.t q2) (.t q)
  (.pld true 2 (.l x0)
  (.gen ⟨(.slot q0),.box (.k (.agg [(.bool false),.snil])),none⟩
  (.st 2 (.t q0) (.l x0)
  .fin)))))
 (.reg (.pld true 2 (.t q1)
  (.pld true 2 (.t q0)
  (.pca q242 [(.l x1),(.l x0)]
  (.st 2 (.t q1) (.l x0)
  .fin)))))))
 (.reg (.pb .add (.t q) (.k (.int .i64 1))
  (.sm q (.l x0)
  .fin))))))))
 (.seq (.reg (.pld true 2 (.t q1)
  (.st 2 (.t q4) (.l x0)
  .fin)))
 .ret)))),[(q4,some (true,2))],[]⟩
def c265 : CFn := ⟨[some q35,some q10],(.seq (.reg (.sm q00 (.k .snil)
  (.sm q0 (.k .snil)
  (.sm q25 (.k (.int .i64 0))
  .fin))))
 (.seq (.reg (.pca q63 [(.t q35)]
  (.pca q63 [(.t q10)]
  (.sm q0 (.l x1)
  (.sm q10 (.l x0)
  .fin)))))
 (.seq (.regc (.pln (.t q10)
  (.pb .eql (.l x0) (.k (.int .i64 0))
  .fin)) (.l x0) (.seq (.reg (.sm q00 (.k .snil)
  (.sm q0 (.k .snil)
  (.sm q25 (.k (.int .i64 5))
  .fin))))
 .ret) .skip)
 (.seq (.regc (.pln (.t q0)
  (.pln (.t q10)
  (.pb .lss (.l x1) (.l x0)
  .fin))) (.l x0) (.seq (.reg (.gen ⟨.push,.move (.t q0),none⟩
  (.sm q00 (.k .snil)
  (.sm q0 (.l x0)
  (.sm q25 (.k (.int .i64 0))
  .fin)))))
 .ret) .skip)
 (.seq (.reg (.pln (.t q0)
  (.pln (.t q10)
  (.pb .sub (.l x1) (.l x0)
  (.pb .add (.l x0) (.k (.int .i64 1))
  (.gen ⟨.push,.mksl 2 32 [(.bool false),.snil] (.l x0) (.l x0),none⟩
  (.sm q00 (.l x0)
  .fin)))))))
 (.seq (.seq (.reg (.pln (.t q00)
  (.pb .sub (.l x0) (.k (.int .i64 1))
  (.sm q7 (.l x0)
  .fin))))
 (.block 0 (.loop (.seq (.regc (.pb .geq (.t q7) (.k (.int .i64 0))
  .fin) (.l x0) .skip (.exit 0))
 (.seq (.block 1 (.seq (.reg (.pln (.t q10)
  (.pb .add (.t q7) (.l x0)
  (.pb .sub (.l x0) (.k (.int .i64 1))
  (.pia 2 (.t q0) (.l x0)
  (.pld true 2 (.l x0)
  (.gen ⟨(.slot q54),.box (.k (.agg [(.bool false),.snil])),none⟩
  (.st 2 (.t q54) (.l x0)
  .fin))))))))
 (.seq (.seq (.reg (.gen ⟨(.slot q74),.len (.t q0),none⟩
  (.sm q1 (.k (.int .i64 0))
  .fin)))
 (.block 2 (.loop (.seq (.regc (.pb .lss (.t q1) (.t q74)
  .fin) (.l x0) .skip (.exit 2))
 (.seq (.block 3 (.seq (.reg (.sm q3 (.t q1)
  .fin))
 (.regd [(⟨(.slot q20),.move (.t q0),none⟩,⟨0,0,2⟩),
  (⟨(.slot q30),.move (.t q3),none⟩,⟨0,0,2⟩),
  (⟨(.slot q40),.move (.t q0),none⟩,⟨0,0,1⟩),
  (⟨(.slot q50),.move (.t q3),none⟩,⟨0,0,1⟩),
  (⟨(.slot q60),.iaddr 2 (.t q40) (.t q50),none⟩,⟨0,0,1⟩),
  (⟨(.slot q70),.load true 2 (.t q60),none⟩,⟨1,0,1⟩),
  (⟨(.slot q01),.move (.t q10),none⟩,⟨0,0,0⟩),
  (⟨(.slot q11),.call q513 [(.t q01)],none⟩,⟨3,0,1⟩),
  (⟨(.slot q21),.call q431 [(.t q70),(.t q11)],none⟩,⟨3,1,2⟩),
  (⟨(.slot q31),.iaddr 2 (.t q20) (.t q30),none⟩,⟨0,2,2⟩),
  (⟨.drop,.store 2 (.t q31) (.t q21),none⟩,⟨3,2,3⟩)])))
 (.reg (.pb .add (.t q1) (.k (.int .i64 1))
  (.sm q1 (.l x0)
  .fin))))))))
 (.seq (.seq (.reg (.gen ⟨(.slot q05),.len (.t q00),none⟩
  (.sm q2 (.k (.int .i64 0))
  .fin)))
 (.block 4 (.loop (.seq (.regc (.pb .lss (.t q2) (.t q05)
  .fin) (.l x0) .skip (.exit 4))
 (.seq (.block 5 (.seq (.reg (.sm q4 (.t q2)
  .fin))
 (.regd [(⟨(.slot q41),.move (.t q00),none⟩,⟨0,0,2⟩),
  (⟨(.slot q51),.move (.t q4),none⟩,⟨0,0,2⟩),
  (⟨(.slot q61),.move (.t q00),none⟩,⟨0,0,1⟩),
  (⟨(.slot q71),.move (.t q4),none⟩,⟨0,0,1⟩),
  (⟨(.slot q02),.iaddr 2 (.t q61) (.t q71),none⟩,⟨0,0,1⟩),
  (⟨(.slot q12),.load true 2 (.t q02),none⟩,⟨1,0,1⟩),
  (⟨(.slot q22),.move (.t q10),none⟩,⟨0,0,0⟩),
  (⟨(.slot q32),.call q513 [(.t q22)],none⟩,⟨3,0,1⟩),
  (⟨(.slot q42),.call q431 [(.t q12),(.t q32)],none⟩,⟨3,1,2⟩),
  (⟨(.slot q52),.iaddr 2 (.t q41) (.t q51),none⟩,⟨0,2,2⟩),
  (⟨.drop,.store 2 (.t q52) (.t q42),none⟩,⟨3,2,3⟩)])))
 (.reg (.pb .add (.t q2) (.k (.int .i64 1))
  (.sm q2 (.l x0)
  .fin))))))))
 (.seq (.reg (.pld true 2 (.t q54)
  (.pca q45 [(.l x0)]
  (.pia 2 (.t q00) (.t q7)
  (.st 2 (.l x0) (.l x1)
  .fin)))))
 (.seq (.reg (.sm q64 (.t q10)
  (.gen ⟨(.slot q15),.len (.t q64),none⟩
  (.sm q (.k (.int .i64 0))
  .fin))))
 (.block 6 (.loop (.seq (.regc (.pb .lss (.t q) (.t q15)
  .fin) (.l x0) .skip (.exit 6))
 (.seq (.block 7 (.seq (.reg (.gen ⟨.push,.move (.t q),none⟩
  (.pia 2 (.t q64) (.t q)
  (.pld true 2 (.l x0)
  (.gen ⟨(.slot q6),.box (.k (.agg [(.bool false),.snil])),none⟩
  (.sm q5 (.l x2)
  (.st 2 (.t q6) (.l x0)
  .fin)))))))
 (.regd [(⟨(.slot q62),.move (.t q0),none⟩,⟨0,0,2⟩),
  (⟨(.slot q72),.move (.t q7),none⟩,⟨0,0,2⟩),
  (⟨(.slot q03),.move (.t q5),none⟩,⟨0,0,2⟩),
  (⟨(.slot q13),.bin .add (.t q72) (.t q03),none⟩,⟨0,0,2⟩),
  (⟨(.slot q23),.move (.t q0),none⟩,⟨0,0,1⟩),
  (⟨(.slot q33),.move (.t q7),none⟩,⟨0,0,1⟩),
  (⟨(.slot q43),.move (.t q5),none⟩,⟨0,0,1⟩),
  (⟨(.slot q53),.bin .add (.t q33) (.t q43),none⟩,⟨0,0,1⟩),
  (⟨(.slot q63),.iaddr 2 (.t q23) (.t q53),none⟩,⟨0,0,1⟩),
  (⟨(.slot q73),.load true 2 (.t q63),none⟩,⟨1,0,1⟩),
  (⟨(.slot q04),.load true 2 (.t q54),none⟩,⟨1,0,0⟩),
  (⟨(.slot q14),.load true 2 (.t q6),none⟩,⟨1,0,0⟩),
  (⟨(.slot q24),.call q431 [(.t q04),(.t q14)],none⟩,⟨3,0,1⟩),
  (⟨(.slot q34),.call q314 [(.t q73),(.t q24)],none⟩,⟨3,1,2⟩),
  (⟨(.slot q44),.iaddr 2 (.t q62) (.t q13),none⟩,⟨0,2,2⟩),
  (⟨.drop,.store 2 (.t q44) (.t q34),none⟩,⟨3,2,3⟩)])))
 (.reg (.pb .add (.t q) (.k (.int .i64 1))
  (.sm q (.l x0)
  .fin)))))))))))))
 (.reg (.pb .sub (.t q7) (.k (.int .i64 1))
  (.sm q7 (.l x0)
  .fin))))))))
 (.seq (.reg (.pca q401 [(.t q00)]
  (.pca q401 [(.t q0)]
  (.sm q00 (.l x1)
  (.sm q0 (.l x0)
  (.sm q25 (.k (.int .i64 0))
  .fin))))))
 .ret))))))),[(q00,none),(q0,none),(q25,none)],[]⟩
def c266 : CFn := ⟨[some q1,some q2],(.seq (.reg (.gen ⟨(.slot q0),.box (.t q2),none⟩
  (.sm q (.k .snil)
  .fin)))
 (.seq (.reg (.gen ⟨.push,.mkfn q764 [(.t q0)],none⟩
  (.pca q664 [(.t q1),(.k .snil),(.l x0)]
  (.sm q (.l x0)
  .fin))))
 .ret)),[(q,none)],[]⟩
def c267 : CFn := ⟨[some q20,some q30],(.seq (.reg (.gen ⟨(.slot q1),.box (.t q20),none⟩
  (.gen ⟨(.slot q),.box (.t q30),none⟩
  (.gen ⟨(.slot q0),.box (.k (.agg [(.bool false),.snil])),none⟩
  .fin))))
 (.seq (.regd [(⟨(.slot q2),.load true 2 (.t q1),none⟩,⟨1,0,1⟩),
  (⟨(.slot q3),.faddr 0 (.t q),none⟩,⟨0,0,1⟩),
  (⟨(.slot q4),.load false 1 (.t q3),none⟩,⟨1,0,1⟩),
  (⟨(.slot q5),.un .not (.t q4),none⟩,⟨0,0,1⟩),
  (⟨(.slot q6),.faddr 1 (.t q),none⟩,⟨0,0,0⟩),
  (⟨(.slot q7),.load false 1 (.t q6),none⟩,⟨1,0,0⟩),
  (⟨(.slot q00),.call q231 [(.t q7)],none⟩,⟨3,0,1⟩),
  (⟨(.slot q10),.call q252 [(.t q2),(.t q5),(.t q00)],none⟩,⟨3,1,2⟩),
  (⟨.drop,.store 2 (.t q0) (.t q10),none⟩,⟨3,2,3⟩)])
 .ret)),[(q0,some (true,2))],[]⟩
def c268 : CFn := ⟨[some q5],(.seq (.reg (.sm q6 (.k (.int .i64 0))
  (.sm q7 (.k .snil)
  .fin)))
 (.seq (.reg (.sm q2 (.k (.int .i64 0))
  (.sm q0 (.k (.int .i64 0))
  .fin)))
 (.seq (.reg (.sm q3 (.k .snil)
  .fin))
 (.seq (.seq (.reg (.sm q (.k (.int .i64 2))
  .fin))
 (.block 0 (.loop (.seq (.regc (.pb .lss (.t q0) (.k (.int .i64 5))
  .fin) (.l x0) .skip (.exit 0))
 (.seq (.block 1 (.seq (.regc (.pca q074 [(.t q)]
  (.pb .neq (.l x0) (.k (.int .i64 0))
  .fin)) (.l x0) (.exit 1) .skip)
 (.seq (.reg (.pca q174 [(.t q5),(.t q)]
  (.pex (.l x0) 0
  (.pex (.l x1) 1
  (.sm q1 (.l x1)
  (.sm q4 (.l x0)
  .fin))))))
 (.seq (.regc (.gen ⟨.push,.un .not (.t q4),none⟩
  .fin) (.l x0) (.exit 1) .skip)
 (.seq (.reg (.pb .add (.t q0) (.k (.int .i64 1))
  (.sm q0 (.l x0)
  .fin)))
 (.regc (.pb .eql (.t q2) (.k (.int .i64 0))
  (.gen ⟨.push,.move (.t q1),some ((.l x0),false)⟩
  (.gen ⟨.push,.len (.l x0),some ((.l x1),false)⟩
  (.gen ⟨.push,.move (.t q3),some ((.l x2),false)⟩
  (.gen ⟨.push,.len (.l x0),some ((.l x3),false)⟩
  (.gen ⟨.push,.bin .lss (.l x2) (.l x0),some ((.l x4),false)⟩
  (.gen ⟨.push,.pick (.l x5) (.k (.bool true)) (.l x0),none⟩
  .fin))))))) (.l x0) (.reg (.gen ⟨.push,.move (.t q1),none⟩
  (.sm q2 (.t q)
  (.sm q3 (.l x0)
  .fin)))) .skip))))))
 (.reg (.pb .add (.t q) (.k (.int .i64 1))
  (.sm q (.l x0)
  .fin))))))))
 (.seq (.reg (.gen ⟨.push,.move (.t q3),none⟩
  (.sm q6 (.t q2)
  (.sm q7 (.l x0)
  .fin))))
 .ret))))),[(q6,none),(q7,none)],[]⟩
def c269 : CFn := ⟨[some q40],(.seq (.reg (.gen ⟨(.slot q10),.box (.k (.agg [(.bool false),.snil])),none⟩
  .fin))
 (.seq (.reg (.pca q211 [(.k (.int .i64 0))]
  (.gen ⟨(.slot q1),.box (.k (.agg [(.bool false),.snil])),none⟩
  (.st 2 (.t q1) (.l x0)
  .fin))))
 (.seq (.seq (.reg (.sm q7 (.t q40)
  (.gen ⟨(.slot q00),.len (.t q7),none⟩
  (.sm q (.k (.int .i64 0))
  .fin))))
 (.block 0 (.loop (.seq (.regc (.pb .lss (.t q) (.t q00)
  .fin) (.l x0) .skip (.exit 0))
 (.seq (.block 1 (.seq (.reg (.pia 2 (.t q7) (.t q)
  (.pld true 2 (.l x0)
  (.gen ⟨(.slot q0),.box (.k (.agg [(.bool false),.snil])),none⟩
  (.st 2 (.t q0) (.l x0)
  .fin)))))
 (.regd [(⟨(.slot q2),.load true 2 (.t q1),none⟩,⟨1,0,1⟩),
  (⟨(.slot q3),.load true 2 (.t q0),none⟩,⟨1,0,0⟩),
  (⟨(.slot q4),.load true 2 (.t q0),none⟩,⟨1,0,0⟩),
  (⟨(.slot q5),.call q431 [(.t q3),(.t q4)],none⟩,⟨3,0,1⟩),
  (⟨(.slot q6),.call q141 [(.t q2),(.t q5)],none⟩,⟨3,1,2⟩),
  (⟨.drop,.store 2 (.t q1) (.t q6),none⟩,⟨3,2,3⟩)])))
 (.reg (.pb .add (.t q) (.k (.int .i64 1))
  (.sm q (.l x0)
  .fin))))))))
 (.seq (.reg (.pld true 2 (.t q1)
  (.pca q274 [(.l x0)]
  (.pex (.l x0) 0
  (.pex (.l x1) 1
  (.pex (.l x2) 2
  (.gen ⟨(.slot q20),.box (.k (.agg [(.bool false),.snil])),none⟩
  (.st 2 (.t q20) (.l x2)
  .fin))))))))
 (.seq (.reg (.pca q211 [(.k (.int .i64 2))]
  (.pln (.t q40)
  (.pb .sub (.l x0) (.k (.int .i64 1))
  (.pca q622 [(.l x2),(.l x0)]
  (.pex (.l x0) 0
  (.pex (.l x1) 1
  (.gen ⟨(.slot q30),.box (.k (.agg [(.bool false),.snil])),none⟩
  (.st 2 (.t q30) (.l x1)
  .fin)))))))))
 (.seq (.regd [(⟨(.slot q50),.load true 2 (.t q30),none⟩,⟨1,0,2⟩),
  (⟨(.slot q60),.load true 2 (.t q20),none⟩,⟨1,0,1⟩),
  (⟨(.slot q70),.call q211 [(.k (.int .i64 1))],none⟩,⟨3,0,1⟩),
  (⟨(.slot q01),.call q141 [(.t q60),(.t q70)],none⟩,⟨3,1,2⟩),
  (⟨(.slot q11),.call q431 [(.t q50),(.t q01)],none⟩,⟨3,2,3⟩),
  (⟨.drop,.store 2 (.t q10) (.t q11),none⟩,⟨3,3,4⟩)])
 .ret)))))),[(q10,some (true,2))],[]⟩
def c270 : CFn := ⟨[some q11,some q21],(.seq (.reg (.gen ⟨(.slot q1),.box (.t q11),none⟩
  (.gen ⟨(.slot q2),.box (.t q21),none⟩
  (.sm q (.k (.int .i64 0))
  .fin))))
 (.seq (.regd [(⟨(.slot q4),.load true 2 (.t q1),none⟩,⟨1,0,0⟩),
  (⟨(.slot q5),.call q221 [(.t q4)],none⟩,⟨3,0,1⟩),
  (⟨(.slot q6),.load true 2 (.t q2),none⟩,⟨1,0,1⟩),
  (⟨(.slot q7),.call q221 [(.t q6)],none⟩,⟨3,1,2⟩),
  (⟨(.slot q0),.move (.t q5),none⟩,⟨0,2,2⟩),
  (⟨(.slot q3),.move (.t q7),none⟩,⟨0,2,2⟩)])
 (.seq (.regc (.pb .neq (.t q0) (.t q3)
  .fin) (.l x0) (.seq (.reg (.pb .sub (.t q0) (.t q3)
  (.pca q354 [(.l x0)]
  (.sm q (.l x0)
  .fin))))
 .ret) .skip)
 (.seq (.regd [(⟨(.slot q00),.move (.t q0),none⟩,⟨0,0,3⟩),
  (⟨(.slot q10),.faddr 1 (.t q1),none⟩,⟨0,0,0⟩),
  (⟨(.slot q20),.load false 1 (.t q10),none⟩,⟨1,0,0⟩),
  (⟨(.slot q30),.call q231 [(.t q20)],none⟩,⟨3,0,1⟩),
  (⟨(.slot q40),.faddr 1 (.t q2),none⟩,⟨0,0,1⟩),
  (⟨(.slot q50),.load false 1 (.t q40),none⟩,⟨1,0,1⟩),
  (⟨(.slot q60),.call q231 [(.t q50)],none⟩,⟨3,1,2⟩),
  (⟨(.slot q70),.call q563 [(.t q30),(.t q60)],none⟩,⟨3,2,3⟩),
  (⟨(.slot q01),.bin .mul (.t q00) (.t q70),none⟩,⟨0,3,3⟩),
  (⟨(.slot q),.move (.t q01),none⟩,⟨0,3,3⟩)])
 .ret)))),[(q,none)],[]⟩
def c271 : CFn := ⟨[some q1,some q42,some q4,some q5],(.seq (.reg (.sm q2 (.k .snil)
  .fin))
 (.seq (.reg (.pca q211 [(.t q4)]
  (.pca q622 [(.l x0),(.t q5)]
  (.pex (.l x0) 0
  (.pex (.l x1) 1
  (.gen ⟨(.slot q),.box (.k (.agg [(.bool false),.snil])),none⟩
  (.st 2 (.t q) (.l x1)
  .fin)))))))
 (.seq (.regd [(⟨(.slot q00),.move (.t q1),none⟩,⟨0,0,0⟩),
  (⟨(.slot q10),.move (.t q1),none⟩,⟨0,0,0⟩),
  (⟨(.slot q20),.len (.t q10),none⟩,⟨0,0,0⟩),
  (⟨(.slot q30),.bin .sub (.t q20) (.k (.int .i64 1)),none⟩,⟨0,0,0⟩),
  (⟨(.slot q40),.iaddr 2 (.t q00) (.t q30),none⟩,⟨0,0,0⟩),
  (⟨(.slot q50),.load true 2 (.t q40),none⟩,⟨1,0,0⟩),
  (⟨(.slot q60),.load true 2 (.t q),none⟩,⟨1,0,0⟩),
  (⟨(.slot q70),.call q374 [(.t q50),(.t q60)],none⟩,⟨3,0,1⟩),
  (⟨(.slot q0),.move (.t q70),none⟩,⟨0,1,1⟩),
  (⟨(.slot q01),.extract (.t q0) 0,none⟩,⟨0,1,1⟩),
  (⟨(.slot q11),.extract (.t q0) 1,none⟩,⟨0,1,2⟩),
  (⟨(.slot q21),.extract (.t q0) 2,none⟩,⟨0,1,3⟩),
  (⟨(.slot q6),.box (.k (.agg [(.bool false),.snil])),none⟩,⟨2,0,1⟩),
  (⟨(.slot q3),.box (.k (.agg [(.bool false),.snil])),none⟩,⟨2,0,1⟩),
  (⟨(.slot q7),.box (.k (.agg [(.bool false),.snil])),none⟩,⟨2,0,1⟩),
  (⟨.drop,.store 2 (.t q6) (.t q01),none⟩,⟨3,1,2⟩),
  (⟨.drop,.store 2 (.t q3) (.t q11),none⟩,⟨3,2,3⟩),
  (⟨.drop,.store 2 (.t q7) (.t q21),none⟩,⟨3,3,4⟩)])
 (.seq (.regd [(⟨(.slot q31),.move (.t q1),none⟩,⟨0,0,0⟩),
  (⟨(.slot q41),.load true 2 (.t q3),none⟩,⟨1,0,0⟩),
  (⟨(.slot q51),.call q214 [(.t q31),(.t q41)],none⟩,⟨3,0,1⟩),
  (⟨(.slot q61),.load true 2 (.t q),none⟩,⟨1,0,1⟩),
  (⟨(.slot q71),.call q424 [(.t q51),(.t q61)],none⟩,⟨3,1,2⟩),
  (⟨(.slot q02),.move (.t q42),none⟩,⟨0,0,2⟩),
  (⟨(.slot q12),.move (.t q4),none⟩,⟨0,0,2⟩),
  (⟨(.slot q22),.move (.t q5),none⟩,⟨0,0,2⟩),
  (⟨(.slot q32),.call q474 [(.t q71),(.t q02),(.t q12),(.t q22)],none⟩,⟨3,2,3⟩),
  (⟨(.slot q2),.move (.t q32),none⟩,⟨0,3,3⟩)])
 .ret)))),[(q2,none)],[]⟩
def c276 : CFn := ⟨[some q7,some q00],(.seq (.reg (.gen ⟨(.slot q4),.box (.t q00),none⟩
  (.sm q6 (.k .snil)
  .fin)))
 (.seq (.reg (.sm q2 (.k .snil)
  .fin))
 (.seq (.seq (.reg (.sm q3 (.t q7)
  (.gen ⟨(.slot q5),.len (.t q3),none⟩
  (.sm q (.k (.int .i64 0))
  .fin))))
 (.block 0 (.loop (.seq (.regc (.pb .lss (.t q) (.t q5)
  .fin) (.l x0) .skip (.exit 0))
 (.seq (.block 1 (.seq (.reg (.pia 2 (.t q3) (.t q)
  (.pld true 2 (.l x0)
  (.gen ⟨(.slot q0),.box (.k (.agg [(.bool false),.snil])),none⟩
  (.st 2 (.t q0) (.l x0)
  .fin)))))
 (.seq (.reg (.pld true 2 (.t q0)
  (.pld true 2 (.t q4)
  (.pca q063 [(.l x1),(.l x0)]
  (.pex (.l x0) 0
  (.pex (.l x1) 1
  (.pex (.l x2) 2
  (.gen ⟨.push,.box (.k (.agg [(.bool false),.snil])),none⟩
  (.gen ⟨(.slot q1),.box (.k (.agg [(.bool false),.snil])),none⟩
  (.st 2 (.l x0) (.l x3)
  (.st 2 (.t q1) (.l x2)
  .fin)))))))))))
 (.reg (.pld true 2 (.t q1)
  (.gen ⟨.push,.bsl 2 1 [(.bool false),.snil] [(0,(.l x0))],none⟩
  (.gen ⟨.push,.append 2 32 (.t q2) (.l x0),none⟩
  (.sm q2 (.l x0)
  .fin))))))))
 (.reg (.pb .add (.t q) (.k (.int .i64 1))
  (.sm q (.l x0)
  .fin))))))))
 (.seq (.reg (.pca q63 [(.t q2)]
  (.sm q6 (.l x0)
  .fin)))
 .ret)))),[(q6,none)],[]⟩
def c279 : CFn := ⟨[some q2,some q,some q1,some q6,some q3],(.seq (.reg (.sm q7 (.k (.bool true))
  .fin))
 (.seq (.reg (.sm q50 (.k (.bool true))
  .fin))
 (.block 0 (.loop (.block 1 (.seq (.reg (.pb .sub (.t q1) (.t q)
  (.sm q10 (.l x0)
  .fin)))
 (.seq (.regc (.pb .leq (.t q10) (.k (.int .i64 12))
  .fin) (.l x0) (.seq (.reg (.pca q674 [(.t q2),(.t q),(.t q1),(.t q3)]
  .fin))
 .ret) .skip)
 (.seq (.regc (.pb .eql (.t q6) (.k (.int .i64 0))
  .fin) (.l x0) (.seq (.reg (.pca q774 [(.t q2),(.t q),(.t q1),(.t q3)]
  .fin))
 .ret) .skip)
 (.seq (.regc (.gen ⟨.push,.un .not (.t q7),none⟩
  .fin) (.l x0) (.seq (.reg (.pca q005 [(.t q2),(.t q),(.t q1),(.t q3)]
  .fin))
 (.reg (.pb .sub (.t q6) (.k (.int .i64 1))
  (.sm q6 (.l x0)
  .fin)))) .skip)
 (.seq (.reg (.pca q105 [(.t q2),(.t q),(.t q1),(.t q3)]
  (.pex (.l x0) 0
  (.pex (.l x1) 1
  (.sm q5 (.l x1)
  (.sm q00 (.l x0)
  .fin))))))
 (.seq (.regc (.pb .eql (.t q00) (.k (.int .i64 2))
  .fin) (.l x0) (.seq (.reg (.pca q205 [(.t q2),(.t q),(.t q1),(.t q3)]
  .fin))
 (.seq (.reg (.pb .sub (.t q1) (.k (.int .i64 1))
  (.pb .sub (.t q5) (.t q)
  (.pb .sub (.l x1) (.l x0)
  (.sm q5 (.l x0)
  .fin)))))
 (.reg (.sm q00 (.k (.int .i64 1))
  .fin)))) .skip)
 (.seq (.regc (.gen ⟨.push,.move (.t q50),some ((.t q7),true)⟩
  (.gen ⟨.push,.pick (.t q7) (.l x0) (.k (.bool false)),none⟩
  (.gen ⟨.push,.move (.t q00),some ((.l x0),true)⟩
  (.gen ⟨.push,.bin .eql (.l x0) (.k (.int .i64 1)),some ((.l x1),true)⟩
  (.gen ⟨.push,.pick (.l x2) (.l x0) (.k (.bool false)),none⟩
  .fin))))) (.l x0) (.regc (.pca q305 [(.t q2),(.t q),(.t q1),(.t q3)]
  .fin) (.l x0) .ret .skip) .skip)
 (.seq (.seq (.regd [(⟨(.slot q01),.move (.t q),none⟩,⟨0,0,0⟩),
  (⟨(.slot q11),.bin .gtr (.t q01) (.k (.int .i64 0)),none⟩,⟨0,0,0⟩),
  (⟨(.slot q0),.move (.t q11),none⟩,⟨0,0,0⟩),
  (⟨(.slot q21),.move (.t q3),some ((.t q0),true)⟩,⟨0,0,0⟩),
  (⟨(.slot q31),.move (.t q2),some ((.t q0),true)⟩,⟨0,0,0⟩),
  (⟨(.slot q41),.move (.t q),some ((.t q0),true)⟩,⟨0,0,0⟩),
  (⟨(.slot q51),.bin .sub (.t q41) (.k (.int .i64 1)),some ((.t q0),true)⟩,⟨0,0,0⟩),
  (⟨(.slot q61),.iaddr 2 (.t q31) (.t q51),some ((.t q0),true)⟩,⟨0,0,0⟩),
  (⟨(.slot q71),.load true 2 (.t q61),some ((.t q0),true)⟩,⟨1,0,0⟩),
  (⟨(.slot q02),.move (.t q2),some ((.t q0),true)⟩,⟨0,0,0⟩),
  (⟨(.slot q12),.move (.t q5),some ((.t q0),true)⟩,⟨0,0,0⟩),
  (⟨(.slot q22),.iaddr 2 (.t q02) (.t q12),some ((.t q0),true)⟩,⟨0,0,0⟩),
  (⟨(.slot q32),.load true 2 (.t q22),some ((.t q0),true)⟩,⟨1,0,0⟩),
  (⟨(.slot q42),.callv (.t q21) [(.t q71),(.t q32)],some ((.t q0),true)⟩,⟨3,0,1⟩),
  (⟨(.slot q52),.bin .lss (.t q42) (.k (.int .i64 0)),some ((.t q0),true)⟩,⟨0,1,1⟩),
  (⟨(.slot q62),.un .not (.t q52),some ((.t q0),true)⟩,⟨0,1,1⟩),
  (⟨(.slot q72),.pick (.t q0) (.t q62) (.k (.bool false)),none⟩,⟨0,1,1⟩)])
 (.cond (.t q72) (.seq (.reg (.pca q405 [(.t q2),(.t q),(.t q1),(.t q5),(.t q3)]
  (.sm q60 (.l x0)
  .fin)))
 (.seq (.reg (.sm q (.t q60)
  .fin))
 (.exit 1))) .skip))
 (.seq (.reg (.pca q505 [(.t q2),(.t q),(.t q1),(.t q5),(.t q3)]
  (.pex (.l x0) 0
  (.pex (.l x1) 1
  (.sm q4 (.l x1)
  (.sm q70 (.l x0)
  .fin))))))
 (.seq (.reg (.sm q50 (.t q70)
  .fin))
 (.seq (.reg (.pb .sub (.t q4) (.t q)
  (.pb .sub (.t q1) (.t q4)
  (.sm q20 (.l x1)
  (.sm q30 (.l x0)
  .fin)))))
 (.seq (.reg (.pb .quo (.t q10) (.k (.int .i64 8))
  (.sm q40 (.l x0)
  .fin)))
 (.regc (.pb .lss (.t q20) (.t q30)
  .fin) (.l x0) (.seq (.reg (.pb .geq (.t q20) (.t q40)
  (.sm q7 (.l x0)
  .fin)))
 (.seq (.reg (.pca q724 [(.t q2),(.t q),(.t q4),(.t q6),(.t q3)]
  .fin))
 (.reg (.pb .add (.t q4) (.k (.int .i64 1))
  (.sm q (.l x0)
  .fin))))) (.seq (.reg (.pb .geq (.t q30) (.t q40)
  (.sm q7 (.l x0)
  .fin)))
 (.seq (.reg (.pb .add (.t q4) (.k (.int .i64 1))
  (.pca q724 [(.t q2),(.l x0),(.t q1),(.t q6),(.t q3)]
  .fin)))
 (.reg (.sm q1 (.t q4)
  .fin)))))))))))))))))))))),[],[]⟩
def c280 : CFn := ⟨[some q0,some q1],(.seq (.reg (.sm q (.k (.int .i64 0))
  .fin))
 (.seq (.reg (.pca q605 [(.t q0)]
  (.sm q3 (.l x0)
  .fin)))
 (.seq (.reg (.pca q605 [(.t q1)]
  (.sm q2 (.l x0)
  .fin)))
 (.seq (.regc .fin (.t q3) (.seq (.regc .fin (.t q2) (.seq (.reg (.sm q (.k (.int .i64 0))
  .fin))
 .ret) .skip)
 (.seq (.reg (.sm q (.k (.int .i64 (-1)))
  .fin))
 .ret)) .skip)
 (.seq (.regc .fin (.t q2) (.seq (.reg (.sm q (.k (.int .i64 1))
  .fin))
 .ret) .skip)
 (.seq (.regc (.pb .lss (.t q0) (.t q1)
  .fin) (.l x0) (.seq (.reg (.sm q (.k (.int .i64 (-1)))
  .fin))
 .ret) .skip)
 (.seq (.regc (.pb .gtr (.t q0) (.t q1)
  .fin) (.l x0) (.seq (.reg (.sm q (.k (.int .i64 1))
  .fin))
 .ret) .skip)
 (.seq (.reg (.sm q (.k (.int .i64 0))
  .fin))
 .ret)))))))),[(q,none)],[]⟩
def c281 : CFn := ⟨[some q4],(.seq (.reg (.gen ⟨(.slot q1),.box (.t q4),none⟩
  (.sm q (.k (.int .i64 0))
  .fin)))
 (.seq (.seq (.reg (.pld true 1 (.t q1)
  (.pca q011 [(.l x0)]
  (.pex (.l x0) 0
  (.pex (.l x1) 1
  (.sm q2 (.l x0)
  .fin))))))
 (.regc (.pb .neq (.t q2) (.k (.int .i64 0))
  .fin) (.l x0) (.seq (.reg (.sm q (.t q2)
  .fin))
 .ret) .skip))
 (.seq (.reg (.pfa 0 (.t q1)
  (.pld false 1 (.l x0)
  (.pca q705 [(.l x0)]
  (.pex (.l x0) 0
  (.pex (.l x1) 1
  (.sm q3 (.l x1)
  (.sm q0 (.l x0)
  .fin))))))))
 (.seq (.regc (.pb .eql (.t q0) (.k (.int .i64 0))
  (.gen ⟨.push,.move (.t q3),some ((.l x0),true)⟩
  (.gen ⟨.push,.un .not (.l x0),some ((.l x1),true)⟩
  (.gen ⟨.push,.pick (.l x2) (.l x0) (.k (.bool false)),none⟩
  .fin)))) (.l x0) (.reg (.sm q0 (.k (.int .i64 10))
  .fin)) .skip)
 (.seq (.reg (.sm q (.t q0)
  .fin))
 .ret))))),[(q,none)],[]⟩
def c282 : CFn := ⟨[some q0,some q1],(.seq (.reg (.sm q (.k .snil)
  .fin))
 (.seq (.reg (.gen ⟨.push,.nilc (.t q0),none⟩
  (.pfa 0 (.l x0)
  (.pld true 1 (.l x0)
  (.pca q14 [(.l x0),(.t q1)]
  (.pex (.l x0) 0
  (.pex (.l x1) 1
  (.pca q334 [(.t q0),(.l x1),(.l x0)]
  (.sm q (.l x0)
  .fin)))))))))
 .ret)),[(q,none)],[]⟩
def c283 : CFn := ⟨[some q0,some q1,some q2],(.seq (.reg (.sm q (.k .snil)
  .fin))
 (.seq (.regc (.gen ⟨.push,.nilc (.t q0),none⟩
  (.pfa 1 (.l x0)
  (.pld false 1 (.l x0)
  (.pb .eql (.l x0) (.k (.int .i64 0))
  .fin)))) (.l x0) (.reg (.gen ⟨.push,.nilc (.t q0),none⟩
  (.pfa 1 (.l x0)
  (.st 1 (.l x0) (.t q2)
  .fin)))) .skip)
 (.seq (.reg (.sm q (.t q1)
  .fin))
 .ret))),[(q,none)],[]⟩
def c284 : CFn := ⟨[some q4,some q0,some q000],(.seq (.reg (.sm q77 (.k .snil)
  .fin))
 (.seq (.reg (.sm q06 (.k .snil)
  .fin))
 (.seq (.seq (.reg (.sm q43 (.k (.int .i64 0))
  .fin))
 (.block 0 (.loop (.seq (.regc (.pb .lss (.t q43) (.t q000)
  (.gen ⟨.push,.move (.t q06),some ((.l x0),true)⟩
  (.gen ⟨.push,.len (.l x0),some ((.l x1),true)⟩
  (.gen ⟨.push,.move (.t q0),some ((.l x2),true)⟩
  (.gen ⟨.push,.len (.l x0),some ((.l x3),true)⟩
  (.gen ⟨.push,.bin .lss (.l x2) (.l x0),some ((.l x4),true)⟩
  (.gen ⟨.push,.pick (.l x5) (.l x0) (.k (.bool false)),none⟩
  .fin))))))) (.l x0) .skip (.exit 0))
 (.seq (.block 1 (.seq (.reg (.pln (.t q06)
  (.pln (.t q06)
  (.sm q3 (.l x1)
  (.sm q03 (.l x0)
  .fin)))))
 (.seq (.block 2 (.loop (.seq (.regc (.pln (.t q0)
  (.pb .lss (.t q03) (.l x0)
  (.gen ⟨.push,.move (.t q0),some ((.l x0),true)⟩
  (.gen ⟨.push,.move (.t q03),some ((.l x1),true)⟩
  (.gen ⟨.push,.iaddr 1 (.l x1) (.l x0),some ((.l x2),true)⟩
  (.gen ⟨.push,.load false 1 (.l x0),some ((.l x3),true)⟩
  (.gen ⟨.push,.move (.t q43),some ((.l x4),true)⟩
  (.gen ⟨.push,.iaddr 1 (.l x1) (.l x0),some ((.l x5),true)⟩
  (.gen ⟨.push,.load false 1 (.l x0),some ((.l x6),true)⟩
  (.gen ⟨.push,.len (.l x0),some ((.l x7),true)⟩
  (.gen ⟨.push,.bin .eql (.l x0) (.k (.int .i64 0)),some ((.l x8),true)⟩
  (.gen ⟨.push,.pick (.l x9) (.l x0) (.k (.bool false)),none⟩
  .fin)))))))))))) (.l x0) .skip (.exit 2))
 (.block 3 (.reg (.pb .add (.t q03) (.k (.int .i64 1))
  (.sm q03 (.l x0)
  .fin)))))))
 (.seq (.regc (.pln (.t q0)
  (.pb .eql (.t q03) (.l x0)
  .fin)) (.l x0) (.exit 1) .skip)
 (.seq (.regd [(⟨(.slot q16),.move (.t q0),none⟩,⟨0,0,0⟩),
  (⟨(.slot q26),.move (.t q03),none⟩,⟨0,0,0⟩),
  (⟨(.slot q36),.move (.t q0),none⟩,⟨0,0,1⟩),
  (⟨(.slot q46),.move (.t q3),none⟩,⟨0,0,1⟩),
  (⟨(.slot q56),.move (.t q0),none⟩,⟨0,0,0⟩),
  (⟨(.slot q66),.move (.t q3),none⟩,⟨0,0,0⟩),
  (⟨(.slot q76),.iaddr 1 (.t q56) (.t q66),none⟩,⟨0,0,0⟩),
  (⟨(.slot q07),.load false 1 (.t q76),none⟩,⟨1,0,0⟩),
  (⟨(.slot q17),.move (.t q0),none⟩,⟨0,0,0⟩),
  (⟨(.slot q27),.move (.t q03),none⟩,⟨0,0,0⟩),
  (⟨(.slot q37),.iaddr 1 (.t q17) (.t q27),none⟩,⟨0,0,0⟩),
  (⟨(.slot q47),.load false 1 (.t q37),none⟩,⟨1,0,0⟩),
  (⟨(.slot q57),.iaddr 1 (.t q16) (.t q26),none⟩,⟨0,0,0⟩),
  (⟨.drop,.store 1 (.t q57) (.t q07),none⟩,⟨3,0,1⟩),
  (⟨(.slot q67),.iaddr 1 (.t q36) (.t q46),none⟩,⟨0,1,1⟩),
  (⟨.drop,.store 1 (.t q67) (.t q47),none⟩,⟨3,1,2⟩)])
 (.seq (.reg (.pia 1 (.t q0) (.t q3)
  (.pld false 1 (.l x0)
  (.pia 1 (.l x0) (.t q43)
  (.pld false 1 (.l x0)
  (.pca q015 [(.t q4),(.l x0)]
  (.sm q55 (.l x0)
  .fin)))))))
 (.seq (.regc (.gen ⟨.push,.nilc (.t q4),none⟩
  (.pfa 1 (.l x0)
  (.pld false 1 (.l x0)
  (.pb .neq (.l x0) (.k (.int .i64 0))
  .fin)))) (.l x0) (.seq (.reg (.sm q77 (.k .snil)
  .fin))
 .ret) .skip)
 (.seq (.seq (.reg (.pia 1 (.t q0) (.t q3)
  (.pld false 1 (.l x0)
  (.gen ⟨(.slot q65),.len (.l x0),none⟩
  (.sm q13 (.k (.int .i64 0))
  .fin)))))
 (.block 4 (.loop (.seq (.regc (.pb .lss (.t q13) (.t q65)
  .fin) (.l x0) .skip (.exit 4))
 (.seq (.block 5 (.seq (.reg (.sm q33 (.t q13)
  .fin))
 (.regd [(⟨(.slot q53),.move (.t q0),none⟩,⟨0,0,1⟩),
  (⟨(.slot q63),.move (.t q3),none⟩,⟨0,0,1⟩),
  (⟨(.slot q73),.iaddr 1 (.t q53) (.t q63),none⟩,⟨0,0,1⟩),
  (⟨(.slot q04),.load false 1 (.t q73),none⟩,⟨1,0,1⟩),
  (⟨(.slot q14),.move (.t q33),none⟩,⟨0,0,1⟩),
  (⟨(.slot q24),.move (.t q4),none⟩,⟨0,0,0⟩),
  (⟨(.slot q34),.move (.t q0),none⟩,⟨0,0,0⟩),
  (⟨(.slot q44),.move (.t q3),none⟩,⟨0,0,0⟩),
  (⟨(.slot q54),.iaddr 1 (.t q34) (.t q44),none⟩,⟨0,0,0⟩),
  (⟨(.slot q64),.load false 1 (.t q54),none⟩,⟨1,0,0⟩),
  (⟨(.slot q74),.move (.t q33),none⟩,⟨0,0,0⟩),
  (⟨(.slot q05),.iaddr 1 (.t q64) (.t q74),none⟩,⟨0,0,0⟩),
  (⟨(.slot q15),.load false 1 (.t q05),none⟩,⟨1,0,0⟩),
  (⟨(.slot q25),.move (.t q55),none⟩,⟨0,0,0⟩),
  (⟨(.slot q35),.call q115 [(.t q24),(.t q15),(.t q25)],none⟩,⟨3,0,1⟩),
  (⟨(.slot q45),.iaddr 1 (.t q04) (.t q14),none⟩,⟨0,1,1⟩),
  (⟨.drop,.store 1 (.t q45) (.t q35),none⟩,⟨3,1,2⟩)])))
 (.reg (.pb .add (.t q13) (.k (.int .i64 1))
  (.sm q13 (.l x0)
  .fin))))))))
 (.seq (.seq (.reg (.gen ⟨(.slot q75),.len (.t q0),none⟩
  (.sm q23 (.k (.int .i64 0))
  .fin)))
 (.block 6 (.loop (.seq (.regc (.pb .lss (.t q23) (.t q75)
  .fin) (.l x0) .skip (.exit 6))
 (.seq (.block 7 (.seq (.reg (.sm q2 (.t q23)
  .fin))
 (.seq (.reg (.pia 1 (.t q0) (.t q2)
  (.pld false 1 (.l x0)
  (.pia 1 (.l x0) (.t q43)
  (.pld false 1 (.l x0)
  (.sm q62 (.l x0)
  .fin))))))
 (.seq (.regc (.pb .eql (.t q2) (.t q3)
  (.gen ⟨.push,.move (.t q62),some ((.l x0),false)⟩
  (.gen ⟨.push,.len (.l x0),some ((.l x1),false)⟩
  (.gen ⟨.push,.bin .eql (.l x0) (.k (.int .i64 0)),some ((.l x2),false)⟩
  (.gen ⟨.push,.pick (.l x3) (.k (.bool true)) (.l x0),none⟩
  .fin))))) (.l x0) (.exit 7) .skip)
 (.seq (.reg (.pia 1 (.t q0) (.t q2)
  (.pld false 1 (.l x0)
  (.gen ⟨(.slot q72),.len (.l x0),none⟩
  (.sm q1 (.k (.int .i64 0))
  .fin)))))
 (.block 8 (.loop (.seq (.regc (.pb .lss (.t q1) (.t q72)
  .fin) (.l x0) .skip (.exit 8))
 (.seq (.block 9 (.seq (.reg (.sm q (.t q1)
  .fin))
 (.regc (.pia 1 (.t q0) (.t q3)
  (.pld false 1 (.l x0)
  (.pia 1 (.l x0) (.t q)
  (.pld false 1 (.l x0)
  (.pln (.l x0)
  (.pb .gtr (.l x0) (.k (.int .i64 0))
  .fin)))))) (.l x0) (.regd [(⟨(.slot q5),.move (.t q0),none⟩,⟨0,0,2⟩),
  (⟨(.slot q6),.move (.t q2),none⟩,⟨0,0,2⟩),
  (⟨(.slot q7),.iaddr 1 (.t q5) (.t q6),none⟩,⟨0,0,2⟩),
  (⟨(.slot q00),.load false 1 (.t q7),none⟩,⟨1,0,2⟩),
  (⟨(.slot q10),.move (.t q),none⟩,⟨0,0,2⟩),
  (⟨(.slot q20),.move (.t q4),none⟩,⟨0,0,1⟩),
  (⟨(.slot q30),.move (.t q0),none⟩,⟨0,0,1⟩),
  (⟨(.slot q40),.move (.t q2),none⟩,⟨0,0,1⟩),
  (⟨(.slot q50),.iaddr 1 (.t q30) (.t q40),none⟩,⟨0,0,1⟩),
  (⟨(.slot q60),.load false 1 (.t q50),none⟩,⟨1,0,1⟩),
  (⟨(.slot q70),.move (.t q),none⟩,⟨0,0,1⟩),
  (⟨(.slot q01),.iaddr 1 (.t q60) (.t q70),none⟩,⟨0,0,1⟩),
  (⟨(.slot q11),.load false 1 (.t q01),none⟩,⟨1,0,1⟩),
  (⟨(.slot q21),.move (.t q4),none⟩,⟨0,0,0⟩),
  (⟨(.slot q31),.move (.t q62),none⟩,⟨0,0,0⟩),
  (⟨(.slot q41),.move (.t q0),none⟩,⟨0,0,0⟩),
  (⟨(.slot q51),.move (.t q3),none⟩,⟨0,0,0⟩),
  (⟨(.slot q61),.iaddr 1 (.t q41) (.t q51),none⟩,⟨0,0,0⟩),
  (⟨(.slot q71),.load false 1 (.t q61),none⟩,⟨1,0,0⟩),
  (⟨(.slot q02),.move (.t q),none⟩,⟨0,0,0⟩),
  (⟨(.slot q12),.iaddr 1 (.t q71) (.t q02),none⟩,⟨0,0,0⟩),
  (⟨(.slot q22),.load false 1 (.t q12),none⟩,⟨1,0,0⟩),
  (⟨(.slot q32),.call q115 [(.t q21),(.t q31),(.t q22)],none⟩,⟨3,0,1⟩),
  (⟨(.slot q42),.call q433 [(.t q20),(.t q11),(.t q32)],none⟩,⟨3,1,2⟩),
  (⟨(.slot q52),.iaddr 1 (.t q00) (.t q10),none⟩,⟨0,2,2⟩),
  (⟨.drop,.store 1 (.t q52) (.t q42),none⟩,⟨3,2,3⟩)]) .skip)))
 (.reg (.pb .add (.t q1) (.k (.int .i64 1))
  (.sm q1 (.l x0)
  .fin))))))))))))
 (.reg (.pb .add (.t q23) (.k (.int .i64 1))
  (.sm q23 (.l x0)
  .fin))))))))
 (.reg (.gen ⟨.push,.bsl 1 1 [(.int .i64 0)] [(0,(.t q43))],none⟩
  (.gen ⟨.push,.append 1 8 (.t q06) (.l x0),none⟩
  (.sm q06 (.l x0)
  .fin)))))))))))))
 (.reg (.pb .add (.t q43) (.k (.int .i64 1))
  (.sm q43 (.l x0)
  .fin))))))))
 (.seq (.reg (.sm q77 (.t q06)
  .fin))
 .ret)))),[(q77,none)],[]⟩
def c285 : CFn := ⟨[some q0,some q1],(.seq (.reg (.sm q (.k .snil)
  .fin))
 (.seq (.reg (.pca q343 [(.t q0),(.t q1),(.k (.fnv q26 []))]
  (.sm q (.l x0)
  .fin)))
 .ret)),[(q,none)],[]⟩
def c286 : CFn := ⟨[some q],(.seq (.reg (.sm q0 (.k (.int .i64 0))
  .fin))
 (.seq (.regc (.pb .geq (.t q) (.k (.int .u32 65536))
  .fin) (.l x0) (.seq (.reg (.pb .shr (.t q) (.k (.int .u64 16))
  (.sm q (.l x0)
  .fin)))
 (.reg (.sm q0 (.k (.int .i64 16))
  .fin))) .skip)
 (.seq (.regc (.pb .geq (.t q) (.k (.int .u32 256))
  .fin) (.l x0) (.seq (.reg (.pb .shr (.t q) (.k (.int .u64 8))
  (.sm q (.l x0)
  .fin)))
 (.reg (.pb .add (.t q0) (.k (.int .i64 8))
  (.sm q0 (.l x0)
  .fin)))) .skip)
 (.seq (.reg (.pcv .u8 (.t q)
  (.gen ⟨.push,.idxS (.k (.str ⟨#[0,1,2,2,3,3,3,3,4,4,4,4,4,4,4,4,5,5,5,5,5,5,5,5,5,5,5,5,5,5,5,5,6,6,6,6,6,6,6,6,6,6,6,6,6,6,6,6,6,6,6,6,6,6,6,6,6,6,6,6,6,6,6,6,7,7,7,7,7,7,7,7,7,7,7,7,7,7,7,7,7,7,7,7,7,7,7,7,7,7,7,7,7,7,7,7,7,7,7,7,7,7,7,7,7,7,7,7,7,7,7,7,7,7,7,7,7,7,7,7,7,7,7,7,7,7,7,7,8,8,8,8,8,8,8,8,8,8,8,8,8,8,8,8,8,8,8,8,8,8,8,8,8,8,8,8,8,8,8,8,8,8,8,8,8,8,8,8,8,8,8,8,8,8,8,8,8,8,8,8,8,8,8,8,8,8,8,8,8,8,8,8,8,8,8,8,8,8,8,8,8,8,8,8,8,8,8,8,8,8,8,8,8,8,8,8,8,8,8,8,8,8,8,8,8,8,8,8,8,8,8,8,8,8,8,8,8,8,8,8,8,8,8,8,8,8,8,8,8,8,8,8,8,8,8,8]⟩)) (.l x0),none⟩
  (.pcv .i64 (.l x0)
  (.pb .add (.t q0) (.l x0)
  (.sm q0 (.l x0)
  .fin))))))
 .ret)))),[(q0,none)],[]⟩
def c287 : CFn := ⟨[some q],(.seq (.reg (.sm q0 (.k (.int .i64 0))
  .fin))
 (.seq (.regc (.pb .geq (.t q) (.k (.int .u64 4294967296))
  .fin) (.l x0) (.seq (.reg (.pb .shr (.t q) (.k (.int .u64 32))
  (.sm q (.l x0)
  .fin)))
 (.reg (.sm q0 (.k (.int .i64 32))
  .fin))) .skip)
 (.seq (.regc (.pb .geq (.t q) (.k (.int .u64 65536))
  .fin) (.l x0) (.seq (.reg (.pb .shr (.t q) (.k (.int .u64 16))
  (.sm q (.l x0)
  .fin)))
 (.reg (.pb .add (.t q0) (.k (.int .i64 16))
  (.sm q0 (.l x0)
  .fin)))) .skip)
 (.seq (.regc (.pb .geq (.t q) (.k (.int .u64 256))
  .fin) (.l x0) (.seq (.reg (.pb .shr (.t q) (.k (.int .u64 8))
  (.sm q (.l x0)
  .fin)))
 (.reg (.pb .add (.t q0) (.k (.int .i64 8))
  (.sm q0 (.l x0)
  .fin)))) .skip)
 (.seq (.reg (.pcv .u8 (.t q)
  (.gen ⟨.push,.idxS (.k (.str ⟨#[0,1,2,2,3,3,3,3,4,4,4,4,4,4,4,4,5,5,5,5,5,5,5,5,5,5,5,5,5,5,5,5,6,6,6,6,6,6,6,6,6,6,6,6,6,6,6,6,6,6,6,6,6,6,6,6,6,6,6,6,6,6,6,6,7,7,7,7,7,7,7,7,7,7,7,7,7,7,7,7,7,7,7,7,7,7,7,7,7,7,7,7,7,7,7,7,7,7,7,7,7,7,7,7,7,7,7,7,7,7,7,7,7,7,7,7,7,7,7,7,7,7,7,7,7,7,7,7,8,8,8,8,8,8,8,8,8,8,8,8,8,8,8,8,8,8,8,8,8,8,8,8,8,8,8,8,8,8,8,8,8,8,8,8,8,8,8,8,8,8,8,8,8,8,8,8,8,8,8,8,8,8,8,8,8,8,8,8,8,8,8,8,8,8,8,8,8,8,8,8,8,8,8,8,8,8,8,8,8,8,8,8,8,8,8,8,8,8,8,8,8,8,8,8,8,8,8,8,8,8,8,8,8,8,8,8,8,8,8,8,8,8,8,8,8,8,8,8,8,8,8,8,8,8,8,8]⟩)) (.l x0),none⟩
  (.pcv .i64 (.l x0)
  (.pb .add (.t q0) (.l x0)
  (.sm q0 (.l x0)
  .fin))))))
 .ret))))),[(q0,none)],[]⟩
def c288 : CFn := ⟨[some q7,some q00],(.seq (.reg (.gen ⟨(.slot q1),.box (.t q7),none⟩
  (.gen ⟨(.slot q2),.box (.t q00),none⟩
  (.gen ⟨(.slot q),.box (.k (.agg [(.int .i64 0),(.int .i64 0)])),none⟩
  (.sm q0 (.k (.int .i64 0))
  .fin)))))
 (.seq (.reg (.pld true 4 (.t q1)
  (.pca q215 [(.l x0)]
  (.pex (.l x0) 0
  (.pex (.l x1) 1
  (.sm q6 (.l x1)
  (.sm q4 (.l x0)
  .fin)))))))
 (.seq (.regc (.pb .neq (.t q4) (.k (.int .i64 0))
  .fin) (.l x0) (.seq (.reg (.gen ⟨.push,.build [(.int .i64 0),(.int .i64 0)] [],none⟩
  (.st 2 (.t q) (.l x0)
  (.sm q0 (.t q4)
  .fin))))
 .ret) .skip)
 (.seq (.regc (.pb .eql (.t q6) (.k (.int .i64 0))
  .fin) (.l x0) (.seq (.reg (.gen ⟨.push,.build [(.int .i64 0),(.int .i64 0)] [],none⟩
  (.st 2 (.t q) (.l x0)
  (.sm q0 (.k (.int .i64 11))
  .fin))))
 .ret) .skip)
 (.seq (.seq (.reg (.pld true 2 (.t q2)
  (.pca q531 [(.l x0)]
  (.sm q5 (.l x0)
  .fin))))
 (.regc (.pb .neq (.t q5) (.k (.int .i64 0))
  .fin) (.l x0) (.seq (.reg (.gen ⟨.push,.build [(.int .i64 0),(.int .i64 0)] [],none⟩
  (.st 2 (.t q) (.l x0)
  (.sm q0 (.t q5)
  .fin))))
 .ret) .skip))
 (.seq (.reg (.pfa 0 (.t q1)
  (.pld false 1 (.l x0)
  (.pfa 0 (.t q2)
  (.pld false 1 (.l x0)
  (.pb .mul (.l x2) (.l x0)
  (.pfa 1 (.t q1)
  (.pld false 1 (.l x0)
  (.pfa 1 (.t q2)
  (.pld false 1 (.l x0)
  (.pb .mul (.l x2) (.l x0)
  (.pb .add (.l x5) (.l x0)
  (.pfa 2 (.t q1)
  (.pld false 1 (.l x0)
  (.pfa 0 (.t q2)
  (.pld false 1 (.l x0)
  (.pb .mul (.l x2) (.l x0)
  (.pfa 3 (.t q1)
  (.pld false 1 (.l x0)
  (.pfa 1 (.t q2)
  (.pld false 1 (.l x0)
  (.pb .mul (.l x2) (.l x0)
  (.pb .add (.l x5) (.l x0)
  (.pca q151 [(.l x11),(.l x0)]
  (.gen ⟨(.slot q3),.box (.k (.agg [(.int .i64 0),(.int .i64 0)])),none⟩
  (.st 2 (.t q3) (.l x0)
  .fin))))))))))))))))))))))))))
 (.seq (.regc (.pfa 0 (.t q3)
  (.pld false 1 (.l x0)
  (.pca q051 [(.l x0)]
  (.gen ⟨.push,.un .not (.l x0),none⟩
  (.gen ⟨.push,.faddr 1 (.t q3),some ((.l x0),false)⟩
  (.gen ⟨.push,.load false 1 (.l x0),some ((.l x1),false)⟩
  (.gen ⟨.push,.call q051 [(.l x0)],some ((.l x2),false)⟩
  (.gen ⟨.push,.un .not (.l x0),some ((.l x3),false)⟩
  (.gen ⟨.push,.pick (.l x4) (.k (.bool true)) (.l x0),none⟩
  .fin))))))))) (.l x0) (.seq (.reg (.gen ⟨.push,.build [(.int .i64 0),(.int .i64 0)] [],none⟩
  (.st 2 (.t q) (.l x0)
  (.sm q0 (.k (.int .i64 7))
  .fin))))
 .ret) .skip)
 (.seq (.reg (.pld true 2 (.t q3)
  (.st 2 (.t q) (.l x0)
  (.sm q0 (.k (.int .i64 0))
  .fin))))
 .ret)))))))),[(q,some (true,2)),(q0,none)],[]⟩
def c289 : CFn := ⟨[some q11],(.seq (.reg (.gen ⟨(.slot q30),.box (.t q11),none⟩
  (.sm q40 (.k (.int .i64 0))
  .fin)))
 (.seq (.reg (.pfa 1 (.t q30)
  (.pld true 3 (.l x0)
  (.pca q632 [(.l x0)]
  (.pex (.l x0) 0
  (.pex (.l x1) 1
  (.pex (.l x2) 2
  (.gen ⟨(.slot q70),.box (.k (.agg [(.int .i64 0),(.int .i64 0),.snil])),none⟩
  (.st 3 (.t q70) (.l x2)
  (.sm q01 (.l x0)
  .fin))))))))))
 (.seq (.regc (.pb .neq (.t q01) (.k (.int .i64 0))
  (.gen ⟨.push,.faddr 1 (.t q30),some ((.l x0),false)⟩
  (.gen ⟨.push,.faddr 1 (.l x0),some ((.l x1),false)⟩
  (.gen ⟨.push,.load false 1 (.l x0),some ((.l x2),false)⟩
  (.gen ⟨.push,.faddr 0 (.t q30),some ((.l x3),false)⟩
  (.gen ⟨.push,.load false 1 (.l x0),some ((.l x4),false)⟩
  (.gen ⟨.push,.bin .neq (.l x2) (.l x0),some ((.l x5),false)⟩
  (.gen ⟨.push,.pick (.l x6) (.k (.bool true)) (.l x0),none⟩
  (.gen ⟨.push,.faddr 0 (.t q70),some ((.l x0),false)⟩
  (.gen ⟨.push,.load false 1 (.l x0),some ((.l x1),false)⟩
  (.gen ⟨.push,.faddr 1 (.t q30),some ((.l x2),false)⟩
  (.gen ⟨.push,.faddr 0 (.l x0),some ((.l x3),false)⟩
  (.gen ⟨.push,.load false 1 (.l x0),some ((.l x4),false)⟩
  (.gen ⟨.push,.bin .neq (.l x3) (.l x0),some ((.l x5),false)⟩
  (.gen ⟨.push,.pick (.l x6) (.k (.bool true)) (.l x0),none⟩
  .fin))))))))))))))) (.l x0) (.seq (.reg (.sm q40 (.k (.int .i64 3))
  .fin))
 .ret) .skip)
 (.seq (.seq (.reg (.pfa 2 (.t q70)
  (.gen ⟨(.slot q50),.load false 1 (.l x0),none⟩
  (.gen ⟨(.slot q60),.len (.t q50),none⟩
  (.sm q (.k (.int .i64 0))
  .fin)))))
 (.block 0 (.loop (.seq (.regc (.pb .lss (.t q) (.t q60)
  .fin) (.l x0) .skip (.exit 0))
 (.seq (.block 1 (.seq (.reg (.gen ⟨.push,.move (.t q),none⟩
  (.pia 4 (.t q50) (.t q)
  (.pld true 4 (.l x0)
  (.gen ⟨(.slot q0),.box (.k (.agg [(.bool false),.snil,(.bool false),.snil])),none⟩
  (.sm q1 (.l x2)
  (.st 4 (.t q0) (.l x0)
  .fin)))))))
 (.seq (.regd [(⟨(.slot q2),.load true 4 (.t q0),none⟩,⟨1,0,0⟩),
  (⟨(.slot q3),.faddr 1 (.t q30),none⟩,⟨0,0,0⟩),
  (⟨(.slot q4),.faddr 2 (.t q3),none⟩,⟨0,0,0⟩),
  (⟨(.slot q5),.load false 1 (.t q4),none⟩,⟨1,0,0⟩),
  (⟨(.slot q6),.move (.t q1),none⟩,⟨0,0,0⟩),
  (⟨(.slot q7),.iaddr 4 (.t q5) (.t q6),none⟩,⟨0,0,0⟩),
  (⟨(.slot q00),.load true 4 (.t q7),none⟩,⟨1,0,0⟩),
  (⟨(.slot q10),.call q712 [(.t q2),(.t q00)],none⟩,⟨3,0,1⟩),
  (⟨(.slot q20),.bin .neq (.t q10) (.k (.int .i64 0)),none⟩,⟨0,1,1⟩)])
 (.cond (.t q20) (.seq (.reg (.sm q40 (.k (.int .i64 3))
  .fin))
 .ret) .skip))))
 (.reg (.pb .add (.t q) (.k (.int .i64 1))
  (.sm q (.l x0)
  .fin))))))))
 (.seq (.reg (.sm q40 (.k (.int .i64 0))
  .fin))
 .ret))))),[(q40,none)],[]⟩
def c290 : CFn := ⟨[some q6],(.seq (.reg (.gen ⟨(.slot q0),.box (.t q6),none⟩
  (.sm q5 (.k .snil)
  .fin)))
 (.seq (.reg (.sm q3 (.k .snil)
  .fin))
 (.seq (.seq (.reg (.pfa 1 (.t q0)
  (.pfa 0 (.l x0)
  (.gen ⟨(.slot q4),.load false 1 (.l x0),none⟩
  (.sm q2 (.k (.int .i64 0))
  .fin)))))
 (.block 0 (.loop (.seq (.regc (.pb .lss (.t q2) (.t q4)
  .fin) (.l x0) .skip (.exit 0))
 (.seq (.block 1 (.seq (.reg (.sm q1 (.t q2)
  .fin))
 (.seq (.reg (.sm q (.k (.int .i64 0))
  .fin))
 (.seq (.block 2 (.loop (.seq (.regc (.pfa 1 (.t q0)
  (.pfa 2 (.l x0)
  (.pld false 1 (.l x0)
  (.pfa 0 (.t q0)
  (.pld false 1 (.l x0)
  (.pb .mul (.t q1) (.l x0)
  (.pb .add (.l x0) (.t q)
  (.pia 4 (.l x4) (.l x0)
  (.pld true 4 (.l x0)
  (.pca q15 [(.l x0)]
  (.pb .eql (.l x0) (.k (.int .i64 0))
  .fin))))))))))) (.l x0) .skip (.exit 2))
 (.block 3 (.reg (.pb .add (.t q) (.k (.int .i64 1))
  (.sm q (.l x0)
  .fin)))))))
 (.reg (.gen ⟨.push,.bsl 1 1 [(.int .i64 0)] [(0,(.t q))],none⟩
  (.gen ⟨.push,.append 1 8 (.t q3) (.l x0),none⟩
  (.sm q3 (.l x0)
  .fin))))))))
 (.reg (.pb .add (.t q2) (.k (.int .i64 1))
  (.sm q2 (.l x0)
  .fin))))))))
 (.seq (.reg (.sm q5 (.t q3)
  .fin))
 .ret)))),[(q5,none)],[]⟩
def c291 : CFn := ⟨[some q0],(.seq (.reg (.sm q (.k .snil)
  .fin))
 (.seq (.regc (.gen ⟨.push,.cmp 2 .eql (.t q0) (.k .snil),none⟩
  .fin) (.l x0) (.seq (.reg (.sm q (.k .snil)
  .fin))
 .ret) .skip)
 (.seq (.reg (.gen ⟨.push,.bsl 4 0 [(.bool false),.snil,(.bool false),.snil] [],none⟩
  (.gen ⟨.push,.append 4 64 (.l x0) (.t q0),none⟩
  (.sm q (.l x0)
  .fin))))
 .ret))),[(q,none)],[]⟩
def c292 : CFn := ⟨[some q0,some q1],(.seq (.reg (.sm q (.k (.bool false))
  .fin))
 (.seq (.reg (.pca q315 [(.t q0),(.t q1)]
  (.pb .geq (.l x0) (.k (.int .i64 0))
  (.sm q (.l x0)
  .fin))))
 .ret)),[(q,none)],[]⟩
def c293 : CFn := ⟨[some q1],(.seq (.reg (.gen ⟨(.slot q0),.box (.t q1),none⟩
  (.sm q (.k (.bool false))
  .fin)))
 (.seq (.reg (.pld true 4 (.t q0)
  (.pca q15 [(.l x0)]
  (.pb .neq (.l x0) (.k (.int .i64 0))
  (.sm q (.l x0)
  .fin)))))
 .ret)),[(q,none)],[]⟩
def c294 : CFn := ⟨[some q0,some q50,some q60],(.seq (.reg (.gen ⟨(.slot q40),.box (.t q50),none⟩
  .fin))
 (.seq (.reg (.sm q (.t q60)
  .fin))
 (.block 0 (.loop (.seq (.regc (.pln (.t q0)
  (.pb .lss (.t q) (.l x0)
  .fin)) (.l x0) .skip (.exit 0))
 (.seq (.block 1 (.regc (.pia 4 (.t q0) (.t q)
  (.pld true 4 (.l x0)
  (.pca q773 [(.l x0)]
  .fin))) (.l x0) (.regd [(⟨(.slot q2),.move (.t q0),none⟩,⟨0,0,1⟩),
  (⟨(.slot q3),.move (.t q),none⟩,⟨0,0,1⟩),
  (⟨(.slot q4),.move (.t q0),none⟩,⟨0,0,0⟩),
  (⟨(.slot q5),.move (.t q),none⟩,⟨0,0,0⟩),
  (⟨(.slot q6),.iaddr 4 (.t q4) (.t q5),none⟩,⟨0,0,0⟩),
  (⟨(.slot q7),.load true 4 (.t q6),none⟩,⟨1,0,0⟩),
  (⟨(.slot q00),.load true 4 (.t q40),none⟩,⟨1,0,0⟩),
  (⟨(.slot q10),.call q671 [(.t q7),(.t q00)],none⟩,⟨3,0,1⟩),
  (⟨(.slot q1),.move (.t q10),none⟩,⟨0,1,1⟩),
  (⟨(.slot q20),.extract (.t q1) 0,none⟩,⟨0,1,1⟩),
  (⟨.drop,.extract (.t q1) 1,none⟩,⟨0,1,2⟩),
  (⟨(.slot q30),.iaddr 4 (.t q2) (.t q3),none⟩,⟨0,1,1⟩),
  (⟨.drop,.store 4 (.t q30) (.t q20),none⟩,⟨3,1,2⟩)]) .skip))
 (.reg (.pb .add (.t q) (.k (.int .i64 1))
  (.sm q (.l x0)
  .fin))))))))),[],[]⟩
def c295 : CFn := ⟨[some q0],(.seq (.reg (.sm q (.k (.int .u64 0))
  .fin))
 (.seq (.seq (.reg (.gen ⟨(.slot q1),.len (.t q0),none⟩
  .fin))
 (.block 0 (.regc (.pb .eql (.t q1) (.k (.int .i64 0))
  .fin) (.l x0) (.seq (.reg (.sm q (.k (.int .u64 0))
  .fin))
 .ret) (.regc (.pb .eql (.t q1) (.k (.int .i64 1))
  .fin) (.l x0) (.seq (.reg (.pia 1 (.t q0) (.k (.int .i64 0))
  (.pld false 1 (.l x0)
  (.pcv .u64 (.l x0)
  (.sm q (.l x0)
  .fin)))))
 .ret) .skip))))
 (.seq (.regd [(⟨(.slot q2),.move (.t q0),none⟩,⟨0,0,0⟩),
  (⟨(.slot q3),.iaddr 1 (.t q2) (.k (.int .i64 1)),none⟩,⟨0,0,0⟩),
  (⟨(.slot q4),.load false 1 (.t q3),none⟩,⟨1,0,0⟩),
  (⟨(.slot q5),.conv .u64 (.t q4),none⟩,⟨0,0,0⟩),
  (⟨(.slot q6),.bin .shl (.t q5) (.k (.int .u64 32)),none⟩,⟨0,0,0⟩),
  (⟨(.slot q7),.move (.t q0),none⟩,⟨0,0,0⟩),
  (⟨(.slot q00),.iaddr 1 (.t q7) (.k (.int .i64 0)),none⟩,⟨0,0,0⟩),
  (⟨(.slot q10),.load false 1 (.t q00),none⟩,⟨1,0,0⟩),
  (⟨(.slot q20),.conv .u64 (.t q10),none⟩,⟨0,0,0⟩),
  (⟨(.slot q30),.bin .or (.t q6) (.t q20),none⟩,⟨0,0,0⟩),
  (⟨(.slot q),.move (.t q30),none⟩,⟨0,0,0⟩)])
 .ret))),[(q,none)],[]⟩
def c296 : CFn := ⟨[some q5,some q4],(.seq (.reg (.sm q0 (.k .snil)
  (.sm q6 (.k .snil)
  .fin)))
 (.seq (.regc (.pca q563 [(.t q5),(.t q4)]
  (.pb .lss (.l x0) (.k (.int .i64 0))
  .fin)) (.l x0) (.seq (.reg (.pca q131 [(.t q5)]
  (.sm q0 (.k .snil)
  (.sm q6 (.l x0)
  .fin))))
 .ret) .skip)
 (.seq (.regc (.pln (.t q5)
  (.pb .leq (.l x0) (.k (.int .i64 2))
  .fin)) (.l x0) (.seq (.reg (.pca q744 [(.t q5)]
  (.pca q744 [(.t q4)]
  (.sm q00 (.l x1)
  (.sm q10 (.l x0)
  .fin)))))
 (.seq (.regd [(⟨(.slot q40),.move (.t q00),none⟩,⟨0,0,0⟩),
  (⟨(.slot q50),.move (.t q10),none⟩,⟨0,0,0⟩),
  (⟨(.slot q60),.bin .quo (.t q40) (.t q50),none⟩,⟨0,0,0⟩),
  (⟨(.slot q70),.call q122 [(.t q60)],none⟩,⟨3,0,1⟩),
  (⟨(.slot q01),.move (.t q00),none⟩,⟨0,0,1⟩),
  (⟨(.slot q11),.move (.t q10),none⟩,⟨0,0,1⟩),
  (⟨(.slot q21),.bin .rem (.t q01) (.t q11),none⟩,⟨0,0,1⟩),
  (⟨(.slot q31),.call q122 [(.t q21)],none⟩,⟨3,1,2⟩),
  (⟨(.slot q0),.move (.t q70),none⟩,⟨0,2,2⟩),
  (⟨(.slot q6),.move (.t q31),none⟩,⟨0,2,2⟩)])
 .ret)) .skip)
 (.seq (.regc (.pln (.t q4)
  (.pb .eql (.l x0) (.k (.int .i64 1))
  .fin)) (.l x0) (.seq (.reg (.pia 1 (.t q4) (.k (.int .i64 0))
  (.pld false 1 (.l x0)
  (.pca q415 [(.t q5),(.l x0)]
  (.pex (.l x0) 0
  (.pex (.l x1) 1
  (.sm q20 (.l x1)
  (.sm q30 (.l x0)
  .fin))))))))
 (.seq (.reg (.pca q231 [(.t q20)]
  (.pcv .u64 (.t q30)
  (.pca q122 [(.l x0)]
  (.sm q0 (.l x2)
  (.sm q6 (.l x0)
  .fin))))))
 .ret)) .skip)
 (.seq (.reg (.pln (.t q4)
  (.pb .sub (.l x0) (.k (.int .i64 1))
  (.pia 1 (.t q4) (.l x0)
  (.pld false 1 (.l x0)
  (.pca q515 [(.l x0)]
  (.pcv .u64 (.l x0)
  (.sm q7 (.l x0)
  .fin))))))))
 (.seq (.reg (.pca q615 [(.t q5),(.t q7)]
  (.pca q615 [(.t q4),(.t q7)]
  (.pca q231 [(.l x0)]
  (.sm q1 (.l x2)
  (.sm q3 (.l x0)
  .fin))))))
 (.seq (.reg (.pln (.t q3)
  (.sm q2 (.l x0)
  .fin)))
 (.seq (.reg (.pln (.t q1)
  (.pb .sub (.l x0) (.t q2)
  (.gen ⟨.push,.mksl 1 4 [(.int .u32 0)] (.l x0) (.l x0),none⟩
  (.sm q0 (.l x0)
  .fin)))))
 (.seq (.seq (.reg (.pln (.t q0)
  (.pb .sub (.l x0) (.k (.int .i64 1))
  (.sm q (.l x0)
  .fin))))
 (.block 0 (.loop (.seq (.regc (.pb .geq (.t q) (.k (.int .i64 0))
  .fin) (.l x0) .skip (.exit 0))
 (.seq (.block 1 (.reg (.pb .add (.t q) (.t q2)
  (.pb .add (.l x0) (.k (.int .i64 1))
  (.gen ⟨.push,.slc 1 (.t q1) (some (.t q)) (some (.l x0)),none⟩
  (.pca q715 [(.l x0),(.t q3)]
  (.pia 1 (.t q0) (.t q)
  (.st 1 (.l x0) (.l x1)
  .fin))))))))
 (.reg (.pb .sub (.t q) (.k (.int .i64 1))
  (.sm q (.l x0)
  .fin))))))))
 (.seq (.regd [(⟨(.slot q41),.move (.t q0),none⟩,⟨0,0,0⟩),
  (⟨(.slot q51),.call q231 [(.t q41)],none⟩,⟨3,0,1⟩),
  (⟨(.slot q61),.move (.t q1),none⟩,⟨0,0,1⟩),
  (⟨(.slot q71),.move (.t q2),none⟩,⟨0,0,1⟩),
  (⟨(.slot q02),.slc 1 (.t q61) none (some (.t q71)),none⟩,⟨0,0,1⟩),
  (⟨(.slot q12),.move (.t q7),none⟩,⟨0,0,1⟩),
  (⟨(.slot q22),.call q025 [(.t q02),(.t q12)],none⟩,⟨3,1,2⟩),
  (⟨(.slot q32),.call q231 [(.t q22)],none⟩,⟨3,2,3⟩),
  (⟨(.slot q0),.move (.t q51),none⟩,⟨0,3,3⟩),
  (⟨(.slot q6),.move (.t q32),none⟩,⟨0,3,3⟩)])
 .ret)))))))))),[(q0,none),(q6,none)],[]⟩
def c297 : CFn := ⟨[some q0],(.seq (.reg (.sm q (.k (.bool false))
  .fin))
 (.seq (.reg (.pb .geq (.t q0) (.k (.int .i64 (-1073741824)))
  (.gen ⟨.push,.move (.t q0),some ((.l x0),true)⟩
  (.gen ⟨.push,.bin .leq (.l x0) (.k (.int .i64 1073741824)),some ((.l x1),true)⟩
  (.gen ⟨.push,.pick (.l x2) (.l x0) (.k (.bool false)),none⟩
  (.sm q (.l x0)
  .fin))))))
 .ret)),[(q,none)],[]⟩
def c298 : CFn := ⟨[some q2,some q3,some q4],(.seq (.reg (.sm q (.k (.int .u32 0))
  (.sm q0 (.k (.int .u32 0))
  .fin)))
 (.seq (.reg (.pcv .u64 (.t q2)
  (.pcv .u64 (.t q3)
  (.pb .add (.l x1) (.l x0)
  (.pcv .u64 (.t q4)
  (.pb .add (.l x1) (.l x0)
  (.sm q1 (.l x0)
  .fin)))))))
 (.seq (.reg (.pcv .u32 (.t q1)
  (.sm q (.l x0)
  .fin)))
 (.seq (.reg (.pb .shr (.t q1) (.k (.int .u64 32))
  (.pcv .u32 (.l x0)
  (.sm q0 (.l x0)
  .fin))))
 .ret)))),[(q,none),(q0,none)],[]⟩
def c299 : CFn := ⟨[some q0],(.seq (.reg (.sm q (.k (.int .i64 0))
  .fin))
 (.seq (.block 0 (.regc (.pb .lss (.t q0) (.k (.int .i64 0))
  .fin) (.l x0) (.seq (.reg (.sm q (.k (.int .i64 (-1)))
  .fin))
 .ret) (.regc (.pb .gtr (.t q0) (.k (.int .i64 0))
  .fin) (.l x0) (.seq (.reg (.sm q (.k (.int .i64 1))
  .fin))
 .ret) .skip)))
 (.seq (.reg (.sm q (.k (.int .i64 0))
  .fin))
 .ret))),[(q,none)],[]⟩
def c300 : CFn := ⟨[some q0,some q1,some q3],(.seq (.reg (.sm q (.k (.int .u32 0))
  (.sm q2 (.k (.int .u32 0))
  .fin)))
 (.seq (.reg (.pb .sub (.t q0) (.t q1)
  (.pb .sub (.l x0) (.t q3)
  (.sm q (.l x0)
  .fin))))
 (.seq (.reg (.gen ⟨.push,.un .xor (.t q0),none⟩
  (.pb .and (.l x0) (.t q1)
  (.pb .xor (.t q0) (.t q1)
  (.gen ⟨.push,.un .xor (.l x0),none⟩
  (.pb .and (.l x0) (.t q)
  (.pb .or (.l x3) (.l x0)
  (.pb .shr (.l x0) (.k (.int .u64 31))
  (.sm q2 (.l x0)
  .fin)))))))))
 .ret))),[(q,none),(q2,none)],[]⟩
def c301 : CFn := ⟨[some q0],(.seq (.reg (.sm q (.k (.int .i64 0))
  .fin))
 (.seq (.regc (.pb .lss (.t q0) (.k (.int .i64 1))
  (.gen ⟨.push,.move (.t q0),some ((.l x0),false)⟩
  (.gen ⟨.push,.bin .gtr (.l x0) (.k (.int .i64 120)),some ((.l x1),false)⟩
  (.gen ⟨.push,.pick (.l x2) (.k (.bool true)) (.l x0),none⟩
  .fin)))) (.l x0) (.seq (.reg (.sm q (.k (.int .i64 2))
  .fin))
 .ret) .skip)
 (.seq (.reg (.sm q (.k (.int .i64 0))
  .fin))
 .ret))),[(q,none)],[]⟩
def c302 : CFn := ⟨[some q6,some q7,some q,some q00],(.regd [(⟨(.slot q0),.load false 1 (.t q),none⟩,⟨1,0,1⟩),
  (⟨(.slot q1),.load false 1 (.t q00),none⟩,⟨1,0,0⟩),
  (⟨(.slot q2),.move (.t q6),none⟩,⟨0,0,0⟩),
  (⟨(.slot q3),.move (.t q7),none⟩,⟨0,0,0⟩),
  (⟨(.slot q4),.callv (.t q1) [(.t q2),(.t q3)],none⟩,⟨3,0,1⟩),
  (⟨(.slot q5),.bin .mul (.t q0) (.t q4),none⟩,⟨0,1,1⟩),
  (⟨.drop,.store 1 (.t q) (.t q5),none⟩,⟨3,1,2⟩)]),[],[]⟩
def c303 : CFn := ⟨[some q5],(.seq (.reg (.sm q00 (.k .snil)
  (.sm q10 (.k (.int .i64 0))
  .fin)))
 (.seq (.seq (.reg (.pca q321 [(.t q5)]
  (.sm q20 (.l x0)
  .fin)))
 (.regc (.pb .neq (.t q20) (.k (.int .i64 0))
  .fin) (.l x0) (.seq (.reg (.gen ⟨.push,.move (.t q20),none⟩
  (.sm q00 (.k .snil)
  (.sm q10 (.l x0)
  .fin))))
 .ret) .skip))
 (.seq (.reg (.pca q125 [(.t q5)]
  (.pex (.l x0) 0
  (.pex (.l x1) 1
  (.sm q30 (.l x1)
  .fin)))))
 (.seq (.reg (.sm q3 (.k .snil)
  .fin))
 (.seq (.seq (.reg (.sm q6 (.t q30)
  (.gen ⟨(.slot q7),.len (.t q6),none⟩
  (.sm q4 (.k (.int .i64 0))
  .fin))))
 (.block 0 (.loop (.seq (.regc (.pb .lss (.t q4) (.t q7)
  .fin) (.l x0) .skip (.exit 0))
 (.seq (.block 1 (.seq (.reg (.pia 1 (.t q6) (.t q4)
  (.pld false 1 (.l x0)
  (.sm q0 (.l x0)
  .fin))))
 (.seq (.reg (.pb .quo (.t q5) (.t q0)
  (.pca q56 [(.t q0),(.l x0)]
  (.sm q1 (.l x0)
  .fin))))
 (.seq (.reg (.gen ⟨.push,.mkmap,none⟩
  (.sm q2 (.l x0)
  .fin)))
 (.seq (.reg (.sm q (.k (.int .i64 1))
  .fin))
 (.block 2 (.loop (.seq (.regc (.pb .leq (.t q) (.t q0)
  .fin) (.l x0) .skip (.exit 2))
 (.seq (.block 3 (.regc (.pca q56 [(.t q),(.t q0)]
  (.pb .eql (.l x0) (.k (.int .i64 1))
  (.gen ⟨.push,.move (.t q2),some ((.l x0),true)⟩
  (.gen ⟨.push,.move (.t q),some ((.l x1),true)⟩
  (.gen ⟨.push,.move (.t q1),some ((.l x2),true)⟩
  (.gen ⟨.push,.bin .rem (.l x1) (.l x0),some ((.l x3),true)⟩
  (.gen ⟨.push,.lookup (.bool false) false (.l x3) (.l x0),some ((.l x4),true)⟩
  (.gen ⟨.push,.un .not (.l x0),some ((.l x5),true)⟩
  (.gen ⟨.push,.pick (.l x6) (.l x0) (.k (.bool false)),none⟩
  .fin))))))))) (.l x0) (.seq (.reg (.pb .rem (.t q) (.t q1)
  (.gen ⟨.drop,.mapup (.t q2) (.l x0) (.k (.bool true)),none⟩
  .fin)))
 (.reg (.gen ⟨.push,.build [(.int .i64 0),(.int .i64 0)] [(0,1,(.t q)),(1,1,(.t q0))],none⟩
  (.gen ⟨.push,.bsl 2 1 [(.int .i64 0),(.int .i64 0)] [(0,(.l x0))],none⟩
  (.gen ⟨.push,.append 2 16 (.t q3) (.l x0),none⟩
  (.sm q3 (.l x0)
  .fin)))))) .skip))
 (.reg (.pb .add (.t q) (.k (.int .i64 1))
  (.sm q (.l x0)
  .fin))))))))))))
 (.reg (.pb .add (.t q4) (.k (.int .i64 1))
  (.sm q4 (.l x0)
  .fin))))))))
 (.seq (.reg (.sm q00 (.t q3)
  (.sm q10 (.k (.int .i64 0))
  .fin)))
 .ret)))))),[(q00,none),(q10,none)],[]⟩
def c304 : CFn := ⟨[some q0,some q1,some q],(.reg (.pld false 1 (.t q1)
  (.pfa 0 (.t q)
  (.pld false 1 (.l x0)
  (.pfa 1 (.t q)
  (.pld false 1 (.l x0)
  (.gen ⟨.push,.build [(.int .i64 0),(.int .i64 0)] [(0,1,(.l x2)),(1,1,(.l x0))],none⟩
  (.pfa 0 (.t q)
  (.pld false 1 (.l x0)
  (.pfa 1 (.t q)
  (.pld false 1 (.l x0)
  (.gen ⟨.push,.build [(.int .i64 0),(.int .i64 0)] [(0,1,(.l x2)),(1,1,(.l x0))],none⟩
  (.pca q164 [(.l x10),(.l x5),(.l x0),(.t q0)]
  .fin))))))))))))),[],[]⟩
def c305 : CFn := ⟨[some q6,some q05,some q15,some q54],(.seq (.reg (.gen ⟨(.slot q00),.box (.t q05),none⟩
  (.gen ⟨(.slot q7),.box (.t q15),none⟩
  .fin)))
 (.seq (.reg (.gen ⟨.push,.nilc (.t q6),none⟩
  (.pfa 0 (.l x0)
  (.pfa 0 (.l x0)
  (.pld false 1 (.l x0)
  (.sm q4 (.l x0)
  .fin))))))
 (.seq (.reg (.pfa 1 (.t q7)
  (.pld false 1 (.l x0)
  (.pca q56 [(.l x0),(.t q4)]
  (.sm q1 (.l x0)
  .fin)))))
 (.seq (.reg (.gen ⟨(.slot q74),.build [(.int .i64 0),(.int .i64 0)] [(0,1,(.k (.int .i64 1))),(1,1,(.k (.int .i64 (-1))))],none⟩
  (.sm q64 (.k (.int .i64 0))
  .fin)))
 (.block 0 (.loop (.seq (.regc (.pb .lss (.t q64) (.k (.int .i64 2))
  .fin) (.l x0) .skip (.exit 0))
 (.seq (.block 1 (.seq (.reg (.gen ⟨.push,.idxA false 2 1 (.t q74) (.t q64),none⟩
  (.sm q3 (.l x0)
  .fin)))
 (.seq (.reg (.gen ⟨.push,.nilc (.t q6),none⟩
  (.pfa 6 (.l x0)
  (.gen ⟨(.slot q34),.load false 1 (.l x0),none⟩
  (.gen ⟨(.slot q44),.len (.t q34),none⟩
  (.sm q0 (.k (.int .i64 0))
  .fin))))))
 (.block 2 (.loop (.seq (.regc (.pb .lss (.t q0) (.t q44)
  .fin) (.l x0) .skip (.exit 2))
 (.seq (.block 3 (.seq (.reg (.pia 1 (.t q34) (.t q0)
  (.pld false 1 (.l x0)
  (.sm q10 (.t q0)
  (.sm q5 (.l x0)
  .fin)))))
 (.seq (.seq (.regd [(⟨(.slot q20),.faddr 1 (.t q00),none⟩,⟨0,0,0⟩),
  (⟨(.slot q30),.load false 1 (.t q20),none⟩,⟨1,0,0⟩),
  (⟨(.slot q40),.move (.t q4),none⟩,⟨0,0,0⟩),
  (⟨(.slot q50),.call q225 [(.t q30),(.t q40)],none⟩,⟨3,0,1⟩),
  (⟨(.slot q60),.move (.t q3),none⟩,⟨0,0,2⟩),
  (⟨(.slot q70),.move (.t q5),none⟩,⟨0,0,2⟩),
  (⟨(.slot q01),.bin .mul (.t q60) (.t q70),none⟩,⟨0,0,2⟩),
  (⟨(.slot q11),.faddr 1 (.t q7),none⟩,⟨0,0,1⟩),
  (⟨(.slot q21),.load false 1 (.t q11),none⟩,⟨1,0,1⟩),
  (⟨(.slot q31),.move (.t q4),none⟩,⟨0,0,1⟩),
  (⟨(.slot q41),.call q225 [(.t q21),(.t q31)],none⟩,⟨3,1,2⟩),
  (⟨(.slot q51),.bin .mul (.t q01) (.t q41),none⟩,⟨0,2,2⟩),
  (⟨(.slot q61),.move (.t q4),none⟩,⟨0,0,2⟩),
  (⟨(.slot q71),.call q225 [(.t q51),(.t q61)],none⟩,⟨3,2,3⟩),
  (⟨(.slot q02),.bin .neq (.t q50) (.t q71),none⟩,⟨0,3,3⟩),
  (⟨(.slot q),.move (.t q02),none⟩,⟨0,3,3⟩),
  (⟨(.slot q12),.faddr 0 (.t q00),some ((.t q),false)⟩,⟨0,3,3⟩),
  (⟨(.slot q22),.load false 1 (.t q12),some ((.t q),false)⟩,⟨1,3,3⟩),
  (⟨(.slot q32),.move (.t q1),some ((.t q),false)⟩,⟨0,3,3⟩),
  (⟨(.slot q42),.call q225 [(.t q22),(.t q32)],some ((.t q),false)⟩,⟨3,3,4⟩),
  (⟨(.slot q52),.move (.t q5),some ((.t q),false)⟩,⟨0,3,4⟩),
  (⟨(.slot q62),.bin .mul (.t q42) (.t q52),some ((.t q),false)⟩,⟨0,4,4⟩),
  (⟨(.slot q72),.move (.t q1),some ((.t q),false)⟩,⟨0,3,4⟩),
  (⟨(.slot q03),.call q225 [(.t q62),(.t q72)],some ((.t q),false)⟩,⟨3,4,5⟩),
  (⟨(.slot q13),.move (.t q3),some ((.t q),false)⟩,⟨0,3,6⟩),
  (⟨(.slot q23),.faddr 0 (.t q7),some ((.t q),false)⟩,⟨0,3,5⟩),
  (⟨(.slot q33),.load false 1 (.t q23),some ((.t q),false)⟩,⟨1,3,5⟩),
  (⟨(.slot q43),.move (.t q1),some ((.t q),false)⟩,⟨0,3,5⟩),
  (⟨(.slot q53),.call q225 [(.t q33),(.t q43)],some ((.t q),false)⟩,⟨3,5,6⟩),
  (⟨(.slot q63),.bin .mul (.t q13) (.t q53),some ((.t q),false)⟩,⟨0,6,6⟩),
  (⟨(.slot q73),.move (.t q1),some ((.t q),false)⟩,⟨0,3,6⟩),
  (⟨(.slot q04),.call q225 [(.t q63),(.t q73)],some ((.t q),false)⟩,⟨3,6,7⟩),
  (⟨(.slot q14),.bin .neq (.t q03) (.t q04),some ((.t q),false)⟩,⟨0,7,7⟩),
  (⟨(.slot q24),.pick (.t q) (.k (.bool true)) (.t q14),none⟩,⟨0,7,7⟩)])
 (.cond (.t q24) (.exit 3) .skip))
 (.seq (.reg (.gen ⟨.push,.nilc (.t q6),none⟩
  (.pfa 7 (.l x0)
  (.pld false 1 (.l x0)
  (.pia 1 (.l x0) (.t q10)
  (.pld false 1 (.l x0)
  (.sm q2 (.l x0)
  .fin)))))))
 (.seq (.regc (.pb .lss (.t q3) (.k (.int .i64 0))
  (.gen ⟨.push,.move (.t q6),some ((.l x0),true)⟩
  (.gen ⟨.push,.nilc (.l x0),some ((.l x1),true)⟩
  (.gen ⟨.push,.faddr 0 (.l x0),some ((.l x2),true)⟩
  (.gen ⟨.push,.faddr 1 (.l x0),some ((.l x3),true)⟩
  (.gen ⟨.push,.load false 1 (.l x0),some ((.l x4),true)⟩
  (.gen ⟨.push,.bin .rem (.l x0) (.k (.int .i64 2)),some ((.l x5),true)⟩
  (.gen ⟨.push,.bin .eql (.l x0) (.k (.int .i64 1)),some ((.l x6),true)⟩
  (.gen ⟨.push,.pick (.l x7) (.l x0) (.k (.bool false)),none⟩
  .fin))))))))) (.l x0) (.reg (.gen ⟨.push,.un .neg (.t q2),none⟩
  (.sm q2 (.l x0)
  .fin))) .skip)
 (.regc (.gen ⟨.push,.callv (.t q54) [(.t q2)],none⟩
  (.gen ⟨.push,.un .not (.l x0),none⟩
  .fin)) (.l x0) .ret .skip))))))
 (.reg (.pb .add (.t q0) (.k (.int .i64 1))
  (.sm q0 (.l x0)
  .fin))))))))))
 (.reg (.pb .add (.t q64) (.k (.int .i64 1))
  (.sm q64 (.l x0)
  .fin))))))))))),[],[]⟩
def c306 : CFn := ⟨[some q1,some q2,some q3],(.seq (.reg (.gen ⟨(.slot q),.box (.k (.agg [(.int .i64 0),(.int .i64 0),(.int .i64 0)])),none⟩
  (.sm q0 (.k (.int .i64 0))
  .fin)))
 (.seq (.seq (.reg (.pca q554 [(.t q1)]
  (.sm q4 (.l x0)
  .fin)))
 (.regc (.pb .neq (.t q4) (.k (.int .i64 0))
  .fin) (.l x0) (.seq (.reg (.gen ⟨.push,.build [(.int .i64 0),(.int .i64 0),(.int .i64 0)] [],none⟩
  (.st 3 (.t q) (.l x0)
  (.sm q0 (.t q4)
  .fin))))
 .ret) .skip))
 (.seq (.regc (.pca q325 [(.t q2)]
  (.gen ⟨.push,.un .not (.l x0),none⟩
  (.gen ⟨.push,.move (.t q3),some ((.l x0),false)⟩
  (.gen ⟨.push,.call q325 [(.l x0)],some ((.l x1),false)⟩
  (.gen ⟨.push,.un .not (.l x0),some ((.l x2),false)⟩
  (.gen ⟨.push,.pick (.l x3) (.k (.bool true)) (.l x0),none⟩
  .fin)))))) (.l x0) (.seq (.reg (.gen ⟨.push,.build [(.int .i64 0),(.int .i64 0),(.int .i64 0)] [],none⟩
  (.st 3 (.t q) (.l x0)
  (.sm q0 (.k (.int .i64 2))
  .fin))))
 .ret) .skip)
 (.seq (.regc (.pca q56 [(.t q2),(.t q3)]
  (.pca q56 [(.l x0),(.t q1)]
  (.pb .neq (.l x0) (.k (.int .i64 1))
  .fin))) (.l x0) (.seq (.reg (.gen ⟨.push,.build [(.int .i64 0),(.int .i64 0),(.int .i64 0)] [],none⟩
  (.st 3 (.t q) (.l x0)
  (.sm q0 (.k (.int .i64 9))
  .fin))))
 .ret) .skip)
 (.seq (.reg (.pca q525 [(.t q2),(.t q1)]
  (.pca q525 [(.t q3),(.t q1)]
  (.pca q425 [(.t q1),(.l x1),(.l x0)]
  (.st 3 (.t q) (.l x0)
  (.sm q0 (.k (.int .i64 0))
  .fin))))))
 .ret))))),[(q,some (true,3)),(q0,none)],[]⟩
def c307 : CFn := ⟨[some q3,some q4],(.seq (.reg (.gen ⟨(.slot q0),.box (.t q4),none⟩
  (.sm q (.k (.int .i64 0))
  .fin)))
 (.seq (.reg (.pca q763 [(.t q3)]
  (.pex (.l x0) 0
  (.pex (.l x1) 1
  (.sm q1 (.l x1)
  .fin)))))
 (.seq (.reg (.pld true 3 (.t q0)
  (.pca q625 [(.t q1),(.l x0),(.k (.fnv q725 []))]
  (.pex (.l x0) 0
  (.pex (.l x1) 1
  (.sm q2 (.l x1)
  .fin))))))
 (.seq (.reg (.sm q (.t q2)
  .fin))
 .ret)))),[(q,none)],[]⟩
def c308 : CFn := ⟨[some q4,some q1],(.seq (.reg (.gen ⟨(.slot q),.box (.k (.agg [(.int .i64 0),(.int .i64 0),(.int .i64 0)])),none⟩
  (.sm q0 (.k (.int .i64 0))
  .fin)))
 (.seq (.reg (.pca q763 [(.t q4)]
  (.pex (.l x0) 0
  (.pex (.l x1) 1
  (.sm q2 (.l x1)
  (.sm q3 (.l x0)
  .fin))))))
 (.seq (.regc (.pb .neq (.t q3) (.k (.int .i64 0))
  .fin) (.l x0) (.seq (.reg (.gen ⟨.push,.build [(.int .i64 0),(.int .i64 0),(.int .i64 0)] [],none⟩
  (.st 3 (.t q) (.l x0)
  (.sm q0 (.t q3)
  .fin))))
 .ret) .skip)
 (.seq (.regc (.pb .lss (.t q1) (.k (.int .i64 0))
  (.gen ⟨.push,.move (.t q1),some ((.l x0),false)⟩
  (.gen ⟨.push,.move (.t q2),some ((.l x1),false)⟩
  (.gen ⟨.push,.len (.l x0),some ((.l x2),false)⟩
  (.gen ⟨.push,.bin .geq (.l x2) (.l x0),some ((.l x3),false)⟩
  (.gen ⟨.push,.pick (.l x4) (.k (.bool true)) (.l x0),none⟩
  .fin)))))) (.l x0) (.seq (.reg (.gen ⟨.push,.build [(.int .i64 0),(.int .i64 0),(.int .i64 0)] [],none⟩
  (.st 3 (.t q) (.l x0)
  (.sm q0 (.k (.int .i64 2))
  .fin))))
 .ret) .skip)
 (.seq (.reg (.pia 3 (.t q2) (.t q1)
  (.pld true 3 (.l x0)
  (.st 3 (.t q) (.l x0)
  (.sm q0 (.k (.int .i64 0))
  .fin)))))
 .ret))))),[(q,some (true,3)),(q0,none)],[]⟩
def c309 : CFn := ⟨[some q2,some q11],(.seq (.reg (.gen ⟨(.slot q70),.box (.t q11),none⟩
  (.sm q4 (.k (.int .i64 0))
  (.sm q5 (.k (.int .i64 0))
  .fin))))
 (.seq (.seq (.reg (.gen ⟨.push,.nilc (.t q2),none⟩
  (.pfa 3 (.l x0)
  (.gen ⟨(.slot q60),.load false 1 (.l x0),none⟩
  (.gen ⟨(.slot q01),.len (.t q60),none⟩
  (.sm q0 (.k (.int .i64 0))
  .fin))))))
 (.block 0 (.loop (.seq (.regc (.pb .lss (.t q0) (.t q01)
  .fin) (.l x0) .skip (.exit 0))
 (.seq (.block 1 (.seq (.reg (.gen ⟨.push,.move (.t q0),none⟩
  (.pia 2 (.t q60) (.t q0)
  (.pld true 2 (.l x0)
  (.gen ⟨(.slot q1),.box (.k (.agg [(.int .i64 0),(.int .i64 0)])),none⟩
  (.sm q3 (.l x2)
  (.st 2 (.t q1) (.l x0)
  .fin)))))))
 (.seq (.reg (.gen ⟨(.slot q),.box (.k (.int .i64 0)),none⟩
  (.st 1 (.t q) (.k (.int .i64 0))
  .fin)))
 (.seq (.reg (.pld true 2 (.t q70)
  (.pfa 0 (.t q1)
  (.pld false 1 (.l x0)
  (.pfa 1 (.t q1)
  (.pld false 1 (.l x0)
  (.gen ⟨.push,.build [(.int .i64 0),(.int .i64 0)] [(0,1,(.l x2)),(1,1,(.l x0))],none⟩
  (.gen ⟨.push,.mkfn q035 [(.t q)],none⟩
  (.pca q164 [(.t q2),(.l x6),(.l x1),(.l x0)]
  .fin)))))))))
 (.seq (.regc (.pld false 1 (.t q)
  (.pb .neq (.l x0) (.k (.int .i64 0))
  (.gen ⟨.push,.move (.t q2),some ((.l x0),true)⟩
  (.gen ⟨.push,.nilc (.l x0),some ((.l x1),true)⟩
  (.gen ⟨.push,.faddr 4 (.l x0),some ((.l x2),true)⟩
  (.gen ⟨.push,.load false 1 (.l x0),some ((.l x3),true)⟩
  (.gen ⟨.push,.move (.t q3),some ((.l x4),true)⟩
  (.gen ⟨.push,.iaddr 1 (.l x1) (.l x0),some ((.l x5),true)⟩
  (.gen ⟨.push,.load false 1 (.l x0),some ((.l x6),true)⟩
  (.gen ⟨.push,.bin .lss (.l x0) (.k (.int .i64 0)),some ((.l x7),true)⟩
  (.gen ⟨.push,.pick (.l x8) (.l x0) (.k (.bool false)),none⟩
  .fin))))))))))) (.l x0) (.seq (.reg (.sm q4 (.k (.int .i64 0))
  (.sm q5 (.k (.int .i64 0))
  .fin)))
 .ret) .skip)
 (.regc (.pld false 1 (.t q)
  (.pb .neq (.l x0) (.k (.int .i64 0))
  .fin)) (.l x0) (.seq (.regd [(⟨(.slot q6),.move (.t q2),none⟩,⟨0,0,0⟩),
  (⟨(.slot q7),.nilc (.t q6),none⟩,⟨0,0,0⟩),
  (⟨(.slot q00),.faddr 4 (.t q7),none⟩,⟨0,0,0⟩),
  (⟨(.slot q10),.load false 1 (.t q00),none⟩,⟨1,0,0⟩),
  (⟨(.slot q20),.move (.t q3),none⟩,⟨0,0,0⟩),
  (⟨(.slot q30),.iaddr 1 (.t q10) (.t q20),none⟩,⟨0,0,0⟩),
  (⟨(.slot q40),.load false 1 (.t q30),none⟩,⟨1,0,0⟩),
  (⟨(.slot q50),.load false 1 (.t q),none⟩,⟨1,0,0⟩),
  (⟨(.slot q4),.move (.t q40),none⟩,⟨0,0,0⟩),
  (⟨(.slot q5),.move (.t q50),none⟩,⟨0,0,0⟩)])
 .ret) .skip))))))
 (.reg (.pb .add (.t q0) (.k (.int .i64 1))
  (.sm q0 (.l x0)
  .fin))))))))
 (.seq (.reg (.sm q4 (.k (.int .i64 0))
  (.sm q5 (.k (.int .i64 0))
  .fin)))
 .ret))),[(q4,none),(q5,none)],[]⟩
def c310 : CFn := ⟨[some q3,some q4,some q7],(.seq (.reg (.sm q00 (.k .snil)
  .fin))
 (.seq (.reg (.pln (.t q3)
  (.pln (.t q4)
  (.gen ⟨.push,.max [(.l x1),(.l x0)],none⟩
  (.gen ⟨.push,.mksl 2 32 [(.bool false),.snil] (.l x0) (.l x0),none⟩
  (.sm q5 (.l x0)
  .fin))))))
 (.seq (.seq (.reg (.gen ⟨(.slot q6),.len (.t q5),none⟩
  (.sm q0 (.k (.int .i64 0))
  .fin)))
 (.block 0 (.loop (.seq (.regc (.pb .lss (.t q0) (.t q6)
  .fin) (.l x0) .skip (.exit 0))
 (.seq (.block 1 (.seq (.reg (.sm q (.t q0)
  .fin))
 (.seq (.reg (.gen ⟨(.slot q1),.box (.k (.agg [(.bool false),.snil])),none⟩
  (.gen ⟨(.slot q2),.box (.k (.agg [(.bool false),.snil])),none⟩
  .fin)))
 (.seq (.regc (.pln (.t q3)
  (.pb .lss (.t q) (.l x0)
  .fin)) (.l x0) (.reg (.pia 2 (.t q3) (.t q)
  (.pld true 2 (.l x0)
  (.st 2 (.t q1) (.l x0)
  .fin)))) .skip)
 (.seq (.regc (.pln (.t q4)
  (.pb .lss (.t q) (.l x0)
  .fin)) (.l x0) (.reg (.pia 2 (.t q4) (.t q)
  (.pld true 2 (.l x0)
  (.st 2 (.t q2) (.l x0)
  .fin)))) .skip)
 (.reg (.pld true 2 (.t q1)
  (.pld true 2 (.t q2)
  (.gen ⟨.push,.callv (.t q7) [(.l x1),(.l x0)],none⟩
  (.pia 2 (.t q5) (.t q)
  (.st 2 (.l x0) (.l x1)
  .fin)))))))))))
 (.reg (.pb .add (.t q0) (.k (.int .i64 1))
  (.sm q0 (.l x0)
  .fin))))))))
 (.seq (.reg (.pca q401 [(.t q5)]
  (.sm q00 (.l x0)
  .fin)))
 .ret)))),[(q00,none)],[]⟩
def c311 : CFn := ⟨[some q1,some q2,some q3],(.seq (.reg (.gen ⟨(.slot q0),.box (.t q1),none⟩
  (.gen ⟨.push,.box (.t q2),none⟩
  (.gen ⟨(.slot q),.box (.k (.agg [(.bool false),.snil])),none⟩
  .fin))))
 (.seq (.reg (.pld true 2 (.t q0)
  (.pld true 2 (.t q3)
  (.pca q431 [(.l x1),(.l x0)]
  (.st 2 (.t q) (.l x0)
  .fin)))))
 .ret)),[(q,some (true,2))],[]⟩
def c312 : CFn := ⟨[some q0],(.seq (.reg (.sm q (.k (.int .i64 0))
  .fin))
 (.seq (.regc (.pb .lss (.t q0) (.k (.int .i64 2))
  (.gen ⟨.push,.move (.t q0),some ((.l x0),false)⟩
  (.gen ⟨.push,.bin .gtr (.l x0) (.k (.int .i64 65521)),some ((.l x1),false)⟩
  (.gen ⟨.push,.pick (.l x2) (.k (.bool true)) (.l x0),none⟩
  .fin)))) (.l x0) (.seq (.reg (.sm q (.k (.int .i64 8))
  .fin))
 .ret) .skip)
 (.seq (.seq (.reg (.pca q461 [(.t q0)]
  (.pex (.l x0) 0
  (.pex (.l x1) 1
  (.sm q1 (.l x1)
  .fin)))))
 (.regc (.gen ⟨.push,.un .not (.t q1),none⟩
  .fin) (.l x0) (.seq (.reg (.sm q (.k (.int .i64 8))
  .fin))
 .ret) .skip))
 (.seq (.reg (.sm q (.k (.int .i64 0))
  .fin))
 .ret)))),[(q,none)],[]⟩
def c313 : CFn := ⟨[some q7,some q00],(.seq (.reg (.sm q2 (.k .snil)
  (.sm q3 (.k (.bool false))
  .fin)))
 (.seq (.reg (.pca q135 [(.t q7),(.t q00)]
  (.sm q6 (.l x0)
  .fin)))
 (.seq (.regc (.pln (.t q6)
  (.pln (.t q7)
  (.pb .neq (.l x1) (.l x0)
  .fin))) (.l x0) (.seq (.reg (.sm q2 (.k .snil)
  (.sm q3 (.k (.bool false))
  .fin)))
 .ret) .skip)
 (.seq (.reg (.pca q235 [(.t q00),(.t q6)]
  (.pex (.l x0) 0
  (.pex (.l x1) 1
  (.pex (.l x2) 2
  (.sm q10 (.l x1)
  .fin))))))
 (.seq (.reg (.sm q1 (.k .snil)
  .fin))
 (.seq (.seq (.reg (.sm q4 (.t q10)
  (.gen ⟨(.slot q5),.len (.t q4),none⟩
  (.sm q (.k (.int .i64 0))
  .fin))))
 (.block 0 (.loop (.seq (.regc (.pb .lss (.t q) (.t q5)
  .fin) (.l x0) .skip (.exit 0))
 (.seq (.block 1 (.seq (.reg (.pia 2 (.t q4) (.t q)
  (.pld true 2 (.l x0)
  (.gen ⟨(.slot q0),.box (.k (.agg [.snil,(.int .i64 0)])),none⟩
  (.st 2 (.t q0) (.l x0)
  .fin)))))
 (.seq (.regc (.pfa 1 (.t q0)
  (.pld false 1 (.l x0)
  (.pb .gtr (.l x0) (.k (.int .i64 1))
  .fin))) (.l x0) (.seq (.reg (.sm q2 (.k .snil)
  (.sm q3 (.k (.bool false))
  .fin)))
 .ret) .skip)
 (.reg (.pfa 0 (.t q0)
  (.pld false 1 (.l x0)
  (.gen ⟨.push,.bsl 1 1 [.snil] [(0,(.l x0))],none⟩
  (.gen ⟨.push,.append 1 24 (.t q1) (.l x0),none⟩
  (.sm q1 (.l x0)
  .fin)))))))))
 (.reg (.pb .add (.t q) (.k (.int .i64 1))
  (.sm q (.l x0)
  .fin))))))))
 (.seq (.reg (.sm q2 (.t q1)
  (.sm q3 (.k (.bool true))
  .fin)))
 .ret))))))),[(q2,none),(q3,none)],[]⟩
def c314 : CFn := ⟨[some q13],(.seq (.reg (.gen ⟨(.slot q40),.box (.t q13),none⟩
  (.gen ⟨(.slot q60),.box (.k (.agg [(.bool false),.snil])),none⟩
  (.sm q70 (.k (.bool false))
  (.sm q01 (.k (.int .i64 0))
  .fin)))))
 (.seq (.regc (.pld true 2 (.t q40)
  (.pca q221 [(.l x0)]
  (.pb .lss (.l x0) (.k (.int .i64 0))
  .fin))) (.l x0) (.seq (.reg (.gen ⟨.push,.build [(.bool false),.snil] [],none⟩
  (.st 2 (.t q60) (.l x0)
  (.sm q70 (.k (.bool false))
  (.sm q01 (.k (.int .i64 2))
  .fin)))))
 .ret) .skip)
 (.seq (.regd [(⟨(.slot q21),.call q211 [(.k (.int .i64 2))],none⟩,⟨3,0,1⟩),
  (⟨(.slot q31),.load true 2 (.t q40),none⟩,⟨1,0,1⟩),
  (⟨(.slot q41),.call q143 [(.t q31)],none⟩,⟨3,1,2⟩),
  (⟨(.slot q51),.bin .add (.t q41) (.k (.int .i64 1)),none⟩,⟨0,2,2⟩),
  (⟨(.slot q61),.bin .quo (.t q51) (.k (.int .i64 2)),none⟩,⟨0,2,2⟩),
  (⟨(.slot q71),.call q622 [(.t q21),(.t q61)],none⟩,⟨3,2,3⟩),
  (⟨(.slot q11),.move (.t q71),none⟩,⟨0,3,3⟩),
  (⟨(.slot q02),.extract (.t q11) 0,none⟩,⟨0,3,3⟩),
  (⟨(.slot q12),.extract (.t q11) 1,none⟩,⟨0,3,4⟩),
  (⟨(.slot q),.box (.k (.agg [(.bool false),.snil])),none⟩,⟨2,0,3⟩),
  (⟨.drop,.store 2 (.t q) (.t q02),none⟩,⟨3,3,4⟩),
  (⟨.drop,.move (.t q12),none⟩,⟨0,4,4⟩)])
 (.seq (.reg (.pca q211 [(.k (.int .i64 2))]
  (.gen ⟨(.slot q50),.box (.k (.agg [(.bool false),.snil])),none⟩
  (.st 2 (.t q50) (.l x0)
  .fin))))
 (.seq (.block 0 (.loop (.block 1 (.seq (.reg (.pld true 2 (.t q40)
  (.pld true 2 (.t q)
  (.pca q063 [(.l x1),(.l x0)]
  (.pex (.l x0) 0
  (.pex (.l x1) 1
  (.pex (.l x2) 2
  (.gen ⟨(.slot q2),.box (.k (.agg [(.bool false),.snil])),none⟩
  (.gen ⟨.push,.box (.k (.agg [(.bool false),.snil])),none⟩
  (.st 2 (.t q2) (.l x3)
  (.st 2 (.l x0) (.l x2)
  .fin)))))))))))
 (.seq (.regd [(⟨(.slot q4),.load true 2 (.t q),none⟩,⟨1,0,0⟩),
  (⟨(.slot q5),.load true 2 (.t q2),none⟩,⟨1,0,0⟩),
  (⟨(.slot q6),.call q141 [(.t q4),(.t q5)],none⟩,⟨3,0,1⟩),
  (⟨(.slot q7),.load true 2 (.t q50),none⟩,⟨1,0,1⟩),
  (⟨(.slot q00),.call q063 [(.t q6),(.t q7)],none⟩,⟨3,1,2⟩),
  (⟨(.slot q1),.move (.t q00),none⟩,⟨0,2,2⟩),
  (⟨(.slot q10),.extract (.t q1) 0,none⟩,⟨0,2,2⟩),
  (⟨(.slot q20),.extract (.t q1) 1,none⟩,⟨0,2,3⟩),
  (⟨(.slot q30),.extract (.t q1) 2,none⟩,⟨0,2,4⟩),
  (⟨(.slot q0),.box (.k (.agg [(.bool false),.snil])),none⟩,⟨2,0,2⟩),
  (⟨(.slot q3),.box (.k (.agg [(.bool false),.snil])),none⟩,⟨2,0,2⟩),
  (⟨.drop,.store 2 (.t q0) (.t q10),none⟩,⟨3,2,3⟩),
  (⟨.drop,.store 2 (.t q3) (.t q20),none⟩,⟨3,3,4⟩),
  (⟨.drop,.move (.t q30),none⟩,⟨0,4,4⟩)])
 (.seq (.regc (.pld true 2 (.t q0)
  (.pld true 2 (.t q)
  (.pca q614 [(.l x1),(.l x0)]
  (.pb .geq (.l x0) (.k (.int .i64 0))
  .fin)))) (.l x0) (.exit 0) .skip)
 (.reg (.pld true 2 (.t q0)
  (.st 2 (.t q) (.l x0)
  .fin)))))))))
 (.seq (.regd [(⟨(.slot q22),.load true 2 (.t q),none⟩,⟨1,0,2⟩),
  (⟨(.slot q32),.load true 2 (.t q),none⟩,⟨1,0,0⟩),
  (⟨(.slot q42),.load true 2 (.t q),none⟩,⟨1,0,0⟩),
  (⟨(.slot q52),.call q431 [(.t q32),(.t q42)],none⟩,⟨3,0,1⟩),
  (⟨(.slot q62),.load true 2 (.t q40),none⟩,⟨1,0,1⟩),
  (⟨(.slot q72),.call q614 [(.t q52),(.t q62)],none⟩,⟨3,1,2⟩),
  (⟨(.slot q03),.bin .eql (.t q72) (.k (.int .i64 0)),none⟩,⟨0,2,3⟩),
  (⟨.drop,.store 2 (.t q60) (.t q22),none⟩,⟨3,2,3⟩),
  (⟨(.slot q70),.move (.t q03),none⟩,⟨0,3,3⟩),
  (⟨(.slot q01),.move (.k (.int .i64 0)),none⟩,⟨0,3,3⟩)])
 .ret)))))),[(q60,some (true,2)),(q70,none),(q01,none)],[]⟩
def c315 : CFn := ⟨[some q44,some q54],(.seq (.reg (.gen ⟨(.slot q60),.box (.t q44),none⟩
  (.gen ⟨(.slot q70),.box (.t q54),none⟩
  (.gen ⟨(.slot q01),.box (.k (.agg [(.bool false),.snil])),none⟩
  (.gen ⟨(.slot q0),.box (.k (.agg [(.bool false),.snil])),none⟩
  (.gen ⟨(.slot q50),.box (.k (.agg [(.bool false),.snil])),none⟩
  .fin))))))
 (.seq (.regc (.pld true 2 (.t q70)
  (.pca q221 [(.l x0)]
  (.pb .eql (.l x0) (.k (.int .i64 0))
  .fin))) (.l x0) (.seq (.regd [(⟨(.slot q31),.load true 2 (.t q60),none⟩,⟨1,0,0⟩),
  (⟨(.slot q41),.call q335 [(.t q31)],none⟩,⟨3,0,1⟩),
  (⟨(.slot q51),.load true 2 (.t q60),none⟩,⟨1,0,1⟩),
  (⟨(.slot q61),.call q221 [(.t q51)],none⟩,⟨3,1,2⟩),
  (⟨(.slot q71),.call q211 [(.t q61)],none⟩,⟨3,2,3⟩),
  (⟨(.slot q02),.build [(.bool false),.snil] [],none⟩,⟨0,0,5⟩),
  (⟨.drop,.store 2 (.t q01) (.t q41),none⟩,⟨3,3,4⟩),
  (⟨.drop,.store 2 (.t q0) (.t q71),none⟩,⟨3,4,5⟩),
  (⟨.drop,.store 2 (.t q50) (.t q02),none⟩,⟨3,5,6⟩)])
 .ret) .skip)
 (.seq (.regd [(⟨(.slot q12),.load true 2 (.t q60),none⟩,⟨1,0,0⟩),
  (⟨(.slot q22),.call q45 [(.t q12)],none⟩,⟨3,0,1⟩),
  (⟨(.slot q32),.load true 2 (.t q70),none⟩,⟨1,0,1⟩),
  (⟨(.slot q42),.call q45 [(.t q32)],none⟩,⟨3,1,2⟩),
  (⟨(.slot q2),.box (.k (.agg [(.bool false),.snil])),none⟩,⟨2,0,2⟩),
  (⟨(.slot q),.box (.k (.agg [(.bool false),.snil])),none⟩,⟨2,0,2⟩),
  (⟨.drop,.store 2 (.t q2) (.t q22),none⟩,⟨3,2,3⟩),
  (⟨.drop,.store 2 (.t q) (.t q42),none⟩,⟨3,3,4⟩)])
 (.seq (.reg (.pca q211 [(.k (.int .i64 1))]
  (.pca q211 [(.k (.int .i64 0))]
  (.gen ⟨(.slot q1),.box (.k (.agg [(.bool false),.snil])),none⟩
  (.st 2 (.t q0) (.l x1)
  (.st 2 (.t q1) (.l x0)
  .fin))))))
 (.seq (.block 0 (.loop (.seq (.regc (.pfa 1 (.t q)
  (.pld false 1 (.l x0)
  (.pln (.l x0)
  (.pb .gtr (.l x0) (.k (.int .i64 0))
  .fin)))) (.l x0) .skip (.exit 0))
 (.block 1 (.seq (.reg (.pld true 2 (.t q2)
  (.pld true 2 (.t q)
  (.pca q063 [(.l x1),(.l x0)]
  (.pex (.l x0) 0
  (.pex (.l x1) 1
  (.pex (.l x2) 2
  (.gen ⟨(.slot q3),.box (.k (.agg [(.bool false),.snil])),none⟩
  (.gen ⟨(.slot q4),.box (.k (.agg [(.bool false),.snil])),none⟩
  (.st 2 (.t q3) (.l x2)
  (.st 2 (.t q4) (.l x1)
  .fin)))))))))))
 (.seq (.regd [(⟨(.slot q5),.load true 2 (.t q),none⟩,⟨1,0,0⟩),
  (⟨(.slot q6),.load true 2 (.t q4),none⟩,⟨1,0,1⟩),
  (⟨.drop,.store 2 (.t q2) (.t q5),none⟩,⟨3,0,1⟩),
  (⟨.drop,.store 2 (.t q) (.t q6),none⟩,⟨3,1,2⟩)])
 (.regd [(⟨(.slot q7),.load true 2 (.t q1),none⟩,⟨1,0,2⟩),
  (⟨(.slot q00),.load true 2 (.t q0),none⟩,⟨1,0,1⟩),
  (⟨(.slot q10),.load true 2 (.t q3),none⟩,⟨1,0,0⟩),
  (⟨(.slot q20),.load true 2 (.t q1),none⟩,⟨1,0,0⟩),
  (⟨(.slot q30),.call q431 [(.t q10),(.t q20)],none⟩,⟨3,0,1⟩),
  (⟨(.slot q40),.call q314 [(.t q00),(.t q30)],none⟩,⟨3,1,2⟩),
  (⟨.drop,.store 2 (.t q0) (.t q7),none⟩,⟨3,2,3⟩),
  (⟨.drop,.store 2 (.t q1) (.t q40),none⟩,⟨3,3,4⟩)])))))))
 (.seq (.regc (.pfa 0 (.t q2)
  (.pld false 1 (.l x0)
  .fin)) (.l x0) (.regd [(⟨(.slot q52),.load true 2 (.t q2),none⟩,⟨1,0,0⟩),
  (⟨(.slot q62),.call q142 [(.t q52)],none⟩,⟨3,0,1⟩),
  (⟨(.slot q72),.load true 2 (.t q0),none⟩,⟨1,0,1⟩),
  (⟨(.slot q03),.call q142 [(.t q72)],none⟩,⟨3,1,2⟩),
  (⟨.drop,.store 2 (.t q2) (.t q62),none⟩,⟨3,2,3⟩),
  (⟨.drop,.store 2 (.t q0) (.t q03),none⟩,⟨3,3,4⟩)]) .skip)
 (.seq (.reg (.pld true 2 (.t q70)
  (.pld true 2 (.t q2)
  (.pca q342 [(.l x1),(.l x0)]
  (.pex (.l x0) 0
  (.pex (.l x1) 1
  (.gen ⟨(.slot q11),.box (.k (.agg [(.bool false),.snil])),none⟩
  (.st 2 (.t q11) (.l x1)
  .fin))))))))
 (.seq (.reg (.pld true 2 (.t q0)
  (.pld true 2 (.t q11)
  (.pca q063 [(.l x1),(.l x0)]
  (.pex (.l x0) 0
  (.pex (.l x1) 1
  (.pex (.l x2) 2
  (.st 2 (.t q0) (.l x1)
  .fin))))))))
 (.seq (.regd [(⟨(.slot q13),.load true 2 (.t q2),none⟩,⟨1,0,1⟩),
  (⟨(.slot q23),.load true 2 (.t q0),none⟩,⟨1,0,0⟩),
  (⟨(.slot q33),.load true 2 (.t q60),none⟩,⟨1,0,0⟩),
  (⟨(.slot q43),.call q431 [(.t q23),(.t q33)],none⟩,⟨3,0,1⟩),
  (⟨(.slot q53),.call q314 [(.t q13),(.t q43)],none⟩,⟨3,1,2⟩),
  (⟨(.slot q63),.load true 2 (.t q70),none⟩,⟨1,0,2⟩),
  (⟨(.slot q73),.call q342 [(.t q53),(.t q63)],none⟩,⟨3,2,3⟩),
  (⟨(.slot q21),.move (.t q73),none⟩,⟨0,3,3⟩),
  (⟨(.slot q04),.extract (.t q21) 0,none⟩,⟨0,3,3⟩),
  (⟨.drop,.extract (.t q21) 1,none⟩,⟨0,3,4⟩),
  (⟨.drop,.store 2 (.t q50) (.t q04),none⟩,⟨3,3,4⟩)])
 (.seq (.regd [(⟨(.slot q14),.load true 2 (.t q2),none⟩,⟨1,0,0⟩),
  (⟨(.slot q24),.load true 2 (.t q0),none⟩,⟨1,0,1⟩),
  (⟨(.slot q34),.load true 2 (.t q50),none⟩,⟨1,0,2⟩),
  (⟨.drop,.store 2 (.t q01) (.t q14),none⟩,⟨3,0,1⟩),
  (⟨.drop,.store 2 (.t q0) (.t q24),none⟩,⟨3,1,2⟩),
  (⟨.drop,.store 2 (.t q50) (.t q34),none⟩,⟨3,2,3⟩)])
 .ret)))))))))),[(q01,some (true,2)),(q0,some (true,2)),(q50,some (true,2))],[]⟩
def c316 : CFn := ⟨[some q30,some q60,some q0,some q01],(.seq (.reg (.sm q70 (.k .snil)
  .fin))
 (.seq (.reg (.pca q211 [(.t q0)]
  (.pca q622 [(.l x0),(.t q01)]
  (.pex (.l x0) 0
  (.pex (.l x1) 1
  (.gen ⟨(.slot q11),.box (.k (.agg [(.bool false),.snil])),none⟩
  (.st 2 (.t q11) (.l x1)
  .fin)))))))
 (.seq (.regc (.pln (.t q60)
  (.pb .eql (.l x0) (.k (.int .i64 0))
  .fin)) (.l x0) (.seq (.reg (.sm q70 (.k .snil)
  .fin))
 .ret) .skip)
 (.seq (.regc (.pln (.t q60)
  (.pb .eql (.l x0) (.k (.int .i64 1))
  .fin)) (.l x0) (.seq (.reg (.pld true 2 (.t q11)
  (.pca q424 [(.t q30),(.l x0)]
  (.gen ⟨.push,.bsl 1 1 [.snil] [(0,(.l x0))],none⟩
  (.sm q70 (.l x0)
  .fin)))))
 .ret) .skip)
 (.seq (.reg (.gen ⟨.push,.bsl 1 1 [(.int .i64 0)] [(0,(.k (.int .i64 1)))],none⟩
  (.sm q3 (.l x0)
  .fin)))
 (.seq (.seq (.reg (.gen ⟨(.slot q20),.slc 1 (.t q60) (some (.k (.int .i64 1))) none,none⟩
  (.gen ⟨(.slot q40),.len (.t q20),none⟩
  (.sm q (.k (.int .i64 0))
  .fin))))
 (.block 0 (.loop (.seq (.regc (.pb .lss (.t q) (.t q40)
  .fin) (.l x0) .skip (.exit 0))
 (.seq (.block 1 (.seq (.reg (.pia 1 (.t q20) (.t q)
  (.pld false 1 (.l x0)
  (.sm q4 (.l x0)
  .fin))))
 (.reg (.pca q435 [(.t q0),(.t q3),(.t q4)]
  (.pex (.l x0) 0
  (.pex (.l x1) 1
  (.sm q3 (.l x1)
  .fin)))))))
 (.reg (.pb .add (.t q) (.k (.int .i64 1))
  (.sm q (.l x0)
  .fin))))))))
 (.seq (.reg (.pia 1 (.t q60) (.k (.int .i64 0))
  (.pld false 1 (.l x0)
  (.pca q535 [(.t q0),(.l x0),(.t q3)]
  (.pex (.l x0) 0
  (.pex (.l x1) 1
  (.pex (.l x2) 2
  (.pex (.l x3) 3
  (.sm q21 (.l x2)
  (.sm q31 (.l x1)
  .fin))))))))))
 (.seq (.reg (.pia 1 (.t q60) (.k (.int .i64 0))
  (.pld false 1 (.l x0)
  (.pca q635 [(.l x0)]
  (.pca q635 [(.t q3)]
  (.gen ⟨.push,.build [.snil,.snil,.snil,.snil] [(0,1,(.l x1)),(1,1,(.l x0)),(2,1,(.t q21)),(3,1,(.t q31))],none⟩
  (.gen ⟨.push,.box (.l x0),none⟩
  (.sm q10 (.l x0)
  .fin))))))))
 (.seq (.reg (.pca q211 [(.t q0)]
  (.gen ⟨(.slot q1),.box (.k (.agg [(.bool false),.snil])),none⟩
  (.st 2 (.t q1) (.l x0)
  .fin))))
 (.seq (.seq (.reg (.gen ⟨(.slot q50),.bin .sub (.t q01) (.k (.int .i64 1)),none⟩
  (.sm q2 (.k (.int .i64 0))
  .fin)))
 (.block 2 (.loop (.seq (.regc (.pb .lss (.t q2) (.t q50)
  .fin) (.l x0) .skip (.exit 2))
 (.seq (.block 3 (.seq (.reg (.pld true 2 (.t q1)
  (.pca q735 [(.t q10),(.t q30),(.t q0),(.l x0)]
  .fin)))
 (.regd [(⟨(.slot q5),.load true 2 (.t q1),none⟩,⟨1,0,1⟩),
  (⟨(.slot q6),.move (.t q0),none⟩,⟨0,0,0⟩),
  (⟨(.slot q7),.call q211 [(.t q6)],none⟩,⟨3,0,1⟩),
  (⟨(.slot q00),.call q431 [(.t q5),(.t q7)],none⟩,⟨3,1,2⟩),
  (⟨.drop,.store 2 (.t q1) (.t q00),none⟩,⟨3,2,3⟩)])))
 (.reg (.pb .add (.t q2) (.k (.int .i64 1))
  (.sm q2 (.l x0)
  .fin))))))))
 (.seq (.regd [(⟨(.slot q41),.move (.t q10),none⟩,⟨0,0,1⟩),
  (⟨(.slot q51),.nilc (.t q41),none⟩,⟨0,0,1⟩),
  (⟨(.slot q61),.faddr 0 (.t q51),none⟩,⟨0,0,1⟩),
  (⟨(.slot q71),.load false 1 (.t q61),none⟩,⟨1,0,1⟩),
  (⟨(.slot q02),.bsl 1 1 [.snil] [(0,(.t q71))],none⟩,⟨2,0,1⟩),
  (⟨(.slot q12),.move (.t q10),none⟩,⟨0,0,0⟩),
  (⟨(.slot q22),.nilc (.t q12),none⟩,⟨0,0,0⟩),
  (⟨(.slot q32),.faddr 1 (.t q22),none⟩,⟨0,0,0⟩),
  (⟨(.slot q42),.load false 1 (.t q32),none⟩,⟨1,0,0⟩),
  (⟨(.slot q52),.move (.t q60),none⟩,⟨0,0,0⟩),
  (⟨(.slot q62),.slc 1 (.t q52) (some (.k (.int .i64 1))) none,none⟩,⟨0,0,0⟩),
  (⟨(.slot q72),.move (.t q0),none⟩,⟨0,0,0⟩),
  (⟨(.slot q03),.move (.t q01),none⟩,⟨0,0,0⟩),
  (⟨(.slot q13),.call q474 [(.t q42),(.t q62),(.t q72),(.t q03)],none⟩,⟨3,0,1⟩),
  (⟨(.slot q23),.append 1 24 (.t q02) (.t q13),none⟩,⟨3,1,2⟩),
  (⟨(.slot q70),.move (.t q23),none⟩,⟨0,2,2⟩)])
 .ret))))))))))),[(q70,none)],[]⟩
def c318 : CFn := ⟨[some q1,some q23,some q53,some q33],(.seq (.reg (.pb .add (.t q23) (.k (.int .i64 1))
  (.sm q43 (.l x0)
  .fin)))
 (.block 0 (.loop (.seq (.regc (.pb .lss (.t q43) (.t q53)
  .fin) (.l x0) .skip (.exit 0))
 (.seq (.block 1 (.seq (.reg (.sm q0 (.t q43)
  .fin))
 (.block 2 (.loop (.seq (.seq (.regd [(⟨(.slot q2),.move (.t q0),none⟩,⟨0,0,0⟩),
  (⟨(.slot q3),.move (.t q23),none⟩,⟨0,0,0⟩),
  (⟨(.slot q4),.bin .gtr (.t q2) (.t q3),none⟩,⟨0,0,0⟩),
  (⟨(.slot q),.move (.t q4),none⟩,⟨0,0,0⟩),
  (⟨(.slot q5),.move (.t q33),some ((.t q),true)⟩,⟨0,0,0⟩),
  (⟨(.slot q6),.move (.t q1),some ((.t q),true)⟩,⟨0,0,0⟩),
  (⟨(.slot q7),.move (.t q0),some ((.t q),true)⟩,⟨0,0,0⟩),
  (⟨(.slot q00),.iaddr 2 (.t q6) (.t q7),some ((.t q),true)⟩,⟨0,0,0⟩),
  (⟨(.slot q10),.load true 2 (.t q00),some ((.t q),true)⟩,⟨1,0,0⟩),
  (⟨(.slot q20),.move (.t q1),some ((.t q),true)⟩,⟨0,0,0⟩),
  (⟨(.slot q30),.move (.t q0),some ((.t q),true)⟩,⟨0,0,0⟩),
  (⟨(.slot q40),.bin .sub (.t q30) (.k (.int .i64 1)),some ((.t q),true)⟩,⟨0,0,0⟩),
  (⟨(.slot q50),.iaddr 2 (.t q20) (.t q40),some ((.t q),true)⟩,⟨0,0,0⟩),
  (⟨(.slot q60),.load true 2 (.t q50),some ((.t q),true)⟩,⟨1,0,0⟩),
  (⟨(.slot q70),.callv (.t q5) [(.t q10),(.t q60)],some ((.t q),true)⟩,⟨3,0,1⟩),
  (⟨(.slot q01),.bin .lss (.t q70) (.k (.int .i64 0)),some ((.t q),true)⟩,⟨0,1,1⟩),
  (⟨(.slot q11),.pick (.t q) (.t q01) (.k (.bool false)),none⟩,⟨0,1,1⟩)])
 (.cond (.t q11) .skip (.exit 2)))
 (.seq (.block 3 (.regd [(⟨(.slot q21),.move (.t q1),none⟩,⟨0,0,0⟩),
  (⟨(.slot q31),.move (.t q0),none⟩,⟨0,0,0⟩),
  (⟨(.slot q41),.move (.t q1),none⟩,⟨0,0,1⟩),
  (⟨(.slot q51),.move (.t q0),none⟩,⟨0,0,1⟩),
  (⟨(.slot q61),.bin .sub (.t q51) (.k (.int .i64 1)),none⟩,⟨0,0,1⟩),
  (⟨(.slot q71),.move (.t q1),none⟩,⟨0,0,0⟩),
  (⟨(.slot q02),.move (.t q0),none⟩,⟨0,0,0⟩),
  (⟨(.slot q12),.bin .sub (.t q02) (.k (.int .i64 1)),none⟩,⟨0,0,0⟩),
  (⟨(.slot q22),.iaddr 2 (.t q71) (.t q12),none⟩,⟨0,0,0⟩),
  (⟨(.slot q32),.load true 2 (.t q22),none⟩,⟨1,0,0⟩),
  (⟨(.slot q42),.move (.t q1),none⟩,⟨0,0,0⟩),
  (⟨(.slot q52),.move (.t q0),none⟩,⟨0,0,0⟩),
  (⟨(.slot q62),.iaddr 2 (.t q42) (.t q52),none⟩,⟨0,0,0⟩),
  (⟨(.slot q72),.load true 2 (.t q62),none⟩,⟨1,0,0⟩),
  (⟨(.slot q03),.iaddr 2 (.t q21) (.t q31),none⟩,⟨0,0,0⟩),
  (⟨.drop,.store 2 (.t q03) (.t q32),none⟩,⟨3,0,1⟩),
  (⟨(.slot q13),.iaddr 2 (.t q41) (.t q61),none⟩,⟨0,1,1⟩),
  (⟨.drop,.store 2 (.t q13) (.t q72),none⟩,⟨3,1,2⟩)]))
 (.reg (.pb .sub (.t q0) (.k (.int .i64 1))
  (.sm q0 (.l x0)
  .fin)))))))))
 (.reg (.pb .add (.t q43) (.k (.int .i64 1))
  (.sm q43 (.l x0)
  .fin)))))))),[],[]⟩
def c326 : CFn := ⟨[some q0],(.seq (.reg (.sm q (.k (.bool false))
  .fin))
 (.seq (.reg (.pb .neq (.t q0) (.t q0)
  (.sm q (.l x0)
  .fin)))
 .ret)),[(q,none)],[]⟩
def c327 : CFn := ⟨[some q3],(.seq (.reg (.sm q (.k (.bool false))
  (.sm q0 (.k (.int .i64 0))
  .fin)))
 (.seq (.reg (.pca q212 [(.t q3)]
  (.pex (.l x0) 0
  (.pex (.l x1) 1
  (.pex (.l x2) 2
  (.gen ⟨.push,.box (.k (.agg [(.bool false),.snil])),none⟩
  (.st 2 (.l x0) (.l x3)
  (.sm q1 (.l x2)
  (.sm q2 (.l x1)
  .fin)))))))))
 (.seq (.reg (.pln (.t q1)
  (.pb .eql (.l x0) (.k (.int .i64 1))
  (.gen ⟨.push,.move (.t q1),some ((.l x0),true)⟩
  (.gen ⟨.push,.iaddr 2 (.l x0) (.k (.int .i64 0)),some ((.l x1),true)⟩
  (.gen ⟨.push,.faddr 1 (.l x0),some ((.l x2),true)⟩
  (.gen ⟨.push,.load false 1 (.l x0),some ((.l x3),true)⟩
  (.gen ⟨.push,.bin .eql (.l x0) (.k (.int .i64 1)),some ((.l x4),true)⟩
  (.gen ⟨.push,.pick (.l x5) (.l x0) (.k (.bool false)),none⟩
  (.gen ⟨.push,.move (.t q2),none⟩
  (.sm q (.l x1)
  (.sm q0 (.l x0)
  .fin))))))))))))
 .ret))),[(q,none),(q0,none)],[]⟩
def c328 : CFn := ⟨[some q0,some q1],(.seq (.reg (.sm q (.k .snil)
  .fin))
 (.seq (.reg (.gen ⟨.push,.nilc (.t q0),none⟩
  (.pfa 0 (.l x0)
  (.pld true 1 (.l x0)
  (.pca q545 [(.l x0),(.t q1)]
  (.pex (.l x0) 0
  (.pex (.l x1) 1
  (.pca q334 [(.t q0),(.l x1),(.l x0)]
  (.sm q (.l x0)
  .fin)))))))))
 .ret)),[(q,none)],[]⟩
def c329 : CFn := ⟨[some q0,some q1,some q2],(.seq (.reg (.sm q (.k .snil)
  .fin))
 (.seq (.reg (.gen ⟨.push,.nilc (.t q0),none⟩
  (.pfa 0 (.l x0)
  (.pld true 1 (.l x0)
  (.pca q44 [(.l x0),(.t q1),(.t q2)]
  (.pex (.l x0) 0
  (.pex (.l x1) 1
  (.pca q334 [(.t q0),(.l x1),(.l x0)]
  (.sm q (.l x0)
  .fin)))))))))
 .ret)),[(q,none)],[]⟩
def c330 : CFn := ⟨[some q2],(.seq (.reg (.gen ⟨(.slot q),.box (.t q2),none⟩
  (.sm q0 (.k (.int .i64 0))
  (.sm q1 (.k (.int .i64 0))
  .fin))))
 (.seq (.regc (.pld true 4 (.t q)
  (.pca q645 [(.l x0)]
  (.gen ⟨.push,.un .not (.l x0),none⟩
  .fin))) (.l x0) (.seq (.reg (.sm q0 (.k (.int .i64 0))
  (.sm q1 (.k (.int .i64 2))
  .fin)))
 .ret) .skip)
 (.seq (.reg (.pfa 0 (.t q)
  (.pld false 1 (.l x0)
  (.pfa 3 (.t q)
  (.pld false 1 (.l x0)
  (.pb .mul (.l x2) (.l x0)
  (.pfa 1 (.t q)
  (.pld false 1 (.l x0)
  (.pfa 2 (.t q)
  (.pld false 1 (.l x0)
  (.pb .mul (.l x2) (.l x0)
  (.pb .sub (.l x5) (.l x0)
  (.sm q0 (.l x0)
  (.sm q1 (.k (.int .i64 0))
  .fin))))))))))))))
 .ret))),[(q0,none),(q1,none)],[]⟩
def c331 : CFn := ⟨[some q2,some q4],(.seq (.reg (.sm q1 (.k (.int .i64 0))
  .fin))
 (.seq (.seq (.reg (.gen ⟨(.slot q3),.len (.t q2),none⟩
  (.sm q (.k (.int .i64 0))
  .fin)))
 (.block 0 (.loop (.seq (.regc (.pb .lss (.t q) (.t q3)
  .fin) (.l x0) .skip (.exit 0))
 (.seq (.block 1 (.seq (.reg (.sm q0 (.t q)
  .fin))
 (.regc (.pia 4 (.t q2) (.t q0)
  (.pld true 4 (.l x0)
  (.gen ⟨.push,.callv (.t q4) [(.l x0)],none⟩
  .fin))) (.l x0) (.seq (.reg (.sm q1 (.t q0)
  .fin))
 .ret) .skip)))
 (.reg (.pb .add (.t q) (.k (.int .i64 1))
  (.sm q (.l x0)
  .fin))))))))
 (.seq (.reg (.sm q1 (.k (.int .i64 (-1)))
  .fin))
 .ret))),[(q1,none)],[]⟩
def c337 : CFn := ⟨[some q2],(.seq (.reg (.sm q0 (.k .snil)
  (.sm q1 (.k (.int .i64 0))
  .fin)))
 (.seq (.regc (.pca q501 [(.t q2)]
  (.gen ⟨.push,.un .not (.l x0),none⟩
  .fin)) (.l x0) (.seq (.reg (.sm q0 (.k .snil)
  (.sm q1 (.k (.int .i64 2))
  .fin)))
 .ret) .skip)
 (.seq (.reg (.gen ⟨.push,.bsl 1 1 [(.int .i64 0)] [(0,(.k (.int .i64 1)))],none⟩
  (.gen ⟨(.slot q),.box (.k .snil),none⟩
  (.st 1 (.t q) (.l x0)
  .fin))))
 (.seq (.reg (.gen ⟨.push,.mkfn q055 [(.t q)],none⟩
  (.pca q601 [(.t q2),(.l x0)]
  .fin)))
 (.seq (.reg (.pld false 1 (.t q)
  (.pca q155 [(.l x0)]
  .fin)))
 (.seq (.reg (.pld false 1 (.t q)
  (.sm q0 (.l x0)
  (.sm q1 (.k (.int .i64 0))
  .fin))))
 .ret)))))),[(q0,none),(q1,none)],[]⟩
def c338 : CFn := ⟨[some q,some q1],(.seq (.reg (.sm q0 (.k (.int .i64 0))
  .fin))
 (.seq (.reg (.pb .rem (.t q) (.t q1)
  (.sm q (.l x0)
  .fin)))
 (.seq (.regc (.pb .lss (.t q) (.k (.int .i64 0))
  .fin) (.l x0) (.reg (.pb .add (.t q) (.t q1)
  (.sm q (.l x0)
  .fin))) .skip)
 (.seq (.reg (.sm q0 (.t q)
  .fin))
 .ret)))),[(q0,none)],[]⟩
def c339 : CFn := ⟨[some q0],(.seq (.reg (.sm q (.k (.bool false))
  .fin))
 (.seq (.reg (.pb .geq (.t q0) (.k (.int .i64 (-1073741824)))
  (.gen ⟨.push,.move (.t q0),some ((.l x0),true)⟩
  (.gen ⟨.push,.bin .leq (.l x0) (.k (.int .i64 1073741824)),some ((.l x1),true)⟩
  (.gen ⟨.push,.pick (.l x2) (.l x0) (.k (.bool false)),none⟩
  (.sm q (.l x0)
  .fin))))))
 .ret)),[(q,none)],[]⟩
def c340 : CFn := ⟨[some q0,some q70,some q01],(.seq (.reg (.gen ⟨(.slot q11),.box (.k (.agg [(.int .i64 0),(.int .i64 0),(.int .i64 0)])),none⟩
  .fin))
 (.seq (.reg (.gen ⟨.push,.build [(.int .i64 0),(.int .i64 0),(.int .i64 0)] [(0,1,(.t q70)),(1,1,(.t q01))],none⟩
  (.gen ⟨(.slot q2),.box (.k (.agg [(.int .i64 0),(.int .i64 0),(.int .i64 0)])),none⟩
  (.st 3 (.t q2) (.l x0)
  (.sm q60 (.k (.int .i64 1))
  .fin)))))
 (.seq (.seq (.reg (.sm q (.k (.int .i64 2))
  .fin))
 (.block 0 (.loop (.seq (.regc (.pb .lss (.t q) (.t q0)
  .fin) (.l x0) .skip (.exit 0))
 (.seq (.block 1 (.seq (.regc (.pca q56 [(.t q),(.t q0)]
  (.pb .neq (.l x0) (.k (.int .i64 1))
  .fin)) (.l x0) (.exit 1) .skip)
 (.seq (.regd [(⟨(.slot q3),.move (.t q),none⟩,⟨0,0,0⟩),
  (⟨(.slot q4),.move (.t q70),none⟩,⟨0,0,0⟩),
  (⟨(.slot q5),.bin .mul (.t q3) (.t q4),none⟩,⟨0,0,0⟩),
  (⟨(.slot q6),.move (.t q0),none⟩,⟨0,0,0⟩),
  (⟨(.slot q7),.bin .rem (.t q5) (.t q6),none⟩,⟨0,0,0⟩),
  (⟨(.slot q00),.move (.t q),none⟩,⟨0,0,0⟩),
  (⟨(.slot q10),.move (.t q01),none⟩,⟨0,0,0⟩),
  (⟨(.slot q20),.bin .mul (.t q00) (.t q10),none⟩,⟨0,0,0⟩),
  (⟨(.slot q30),.move (.t q0),none⟩,⟨0,0,0⟩),
  (⟨(.slot q40),.bin .rem (.t q20) (.t q30),none⟩,⟨0,0,0⟩),
  (⟨(.slot q50),.build [(.int .i64 0),(.int .i64 0),(.int .i64 0)] [(0,1,(.t q7)),(1,1,(.t q40))],none⟩,⟨0,0,0⟩),
  (⟨(.slot q1),.box (.k (.agg [(.int .i64 0),(.int .i64 0),(.int .i64 0)])),none⟩,⟨2,0,0⟩),
  (⟨.drop,.store 3 (.t q1) (.t q50),none⟩,⟨3,0,1⟩)])
 (.regc (.pld true 3 (.t q1)
  (.pld true 3 (.t q2)
  (.pca q725 [(.l x1),(.l x0)]
  (.pb .lss (.l x0) (.k (.int .i64 0))
  .fin)))) (.l x0) (.reg (.pld true 3 (.t q1)
  (.st 3 (.t q2) (.l x0)
  (.sm q60 (.t q)
  .fin)))) .skip))))
 (.reg (.pb .add (.t q) (.k (.int .i64 1))
  (.sm q (.l x0)
  .fin))))))))
 (.seq (.reg (.pca q421 [(.t q60),(.t q0)]
  (.pex (.l x0) 0
  (.pex (.l x1) 1
  (.sm q21 (.l x1)
  .fin)))))
 (.seq (.reg (.pfa 2 (.t q2)
  (.st 1 (.l x0) (.t q21)
  .fin)))
 (.seq (.regc (.pb .eql (.t q0) (.k (.int .i64 1))
  .fin) (.l x0) (.reg (.pfa 2 (.t q2)
  (.st 1 (.l x0) (.k (.int .i64 1))
  .fin))) .skip)
 (.seq (.reg (.pld true 3 (.t q2)
  (.st 3 (.t q11) (.l x0)
  .fin)))
 .ret))))))),[(q11,some (true,3))],[]⟩
def c341 : CFn := ⟨[some q,some q1],(.seq (.reg (.sm q0 (.k (.int .i64 0))
  .fin))
 (.seq (.seq (.reg (.pb .rem (.t q) (.t q1)
  (.sm q (.l x0)
  .fin)))
 (.regc (.pb .lss (.t q) (.k (.int .i64 0))
  .fin) (.l x0) (.reg (.pb .add (.t q) (.t q1)
  (.sm q (.l x0)
  .fin))) .skip))
 (.seq (.reg (.sm q0 (.t q)
  .fin))
 .ret))),[(q0,none)],[]⟩
def c342 : CFn := ⟨[some q20,some q62,some q50],(.seq (.reg (.gen ⟨(.slot q30),.box (.t q62),none⟩
  (.sm q60 (.k (.int .i64 0))
  (.sm q70 (.k (.bool false))
  .fin))))
 (.seq (.reg (.pln (.t q20)
  (.sm q01 (.l x0)
  .fin)))
 (.seq (.reg (.gen ⟨.push,.move (.t q01),none⟩
  (.sm q0 (.k (.int .i64 0))
  (.sm q1 (.l x0)
  .fin))))
 (.seq (.block 0 (.loop (.seq (.regc (.pb .lss (.t q0) (.t q1)
  .fin) (.l x0) .skip (.exit 0))
 (.block 1 (.seq (.reg (.pb .add (.t q0) (.t q1)
  (.pcv .u64 (.l x0)
  (.pb .shr (.l x0) (.k (.int .u64 1))
  (.pcv .i64 (.l x0)
  (.sm q (.l x0)
  .fin))))))
 (.seq (.regd [(⟨(.slot q2),.move (.t q50),none⟩,⟨0,0,0⟩),
  (⟨(.slot q3),.move (.t q20),none⟩,⟨0,0,0⟩),
  (⟨(.slot q4),.move (.t q),none⟩,⟨0,0,0⟩),
  (⟨(.slot q5),.iaddr 3 (.t q3) (.t q4),none⟩,⟨0,0,0⟩),
  (⟨(.slot q6),.load true 3 (.t q5),none⟩,⟨1,0,0⟩),
  (⟨(.slot q7),.load true 3 (.t q30),none⟩,⟨1,0,0⟩),
  (⟨(.slot q00),.callv (.t q2) [(.t q6),(.t q7)],none⟩,⟨3,0,1⟩),
  (⟨(.slot q10),.bin .lss (.t q00) (.k (.int .i64 0)),none⟩,⟨0,1,1⟩)])
 (.cond (.t q10) (.reg (.pb .add (.t q) (.k (.int .i64 1))
  (.sm q0 (.l x0)
  .fin))) (.reg (.sm q1 (.t q)
  .fin)))))))))
 (.seq (.regd [(⟨(.slot q11),.move (.t q0),none⟩,⟨0,0,1⟩),
  (⟨(.slot q21),.move (.t q0),none⟩,⟨0,0,0⟩),
  (⟨(.slot q31),.move (.t q01),none⟩,⟨0,0,0⟩),
  (⟨(.slot q41),.bin .lss (.t q21) (.t q31),none⟩,⟨0,0,0⟩),
  (⟨(.slot q40),.move (.t q41),none⟩,⟨0,0,0⟩),
  (⟨(.slot q51),.move (.t q50),some ((.t q40),true)⟩,⟨0,0,0⟩),
  (⟨(.slot q61),.move (.t q20),some ((.t q40),true)⟩,⟨0,0,0⟩),
  (⟨(.slot q71),.move (.t q0),some ((.t q40),true)⟩,⟨0,0,0⟩),
  (⟨(.slot q02),.iaddr 3 (.t q61) (.t q71),some ((.t q40),true)⟩,⟨0,0,0⟩),
  (⟨(.slot q12),.load true 3 (.t q02),some ((.t q40),true)⟩,⟨1,0,0⟩),
  (⟨(.slot q22),.load true 3 (.t q30),some ((.t q40),true)⟩,⟨1,0,0⟩),
  (⟨(.slot q32),.callv (.t q51) [(.t q12),(.t q22)],some ((.t q40),true)⟩,⟨3,0,1⟩),
  (⟨(.slot q42),.bin .eql (.t q32) (.k (.int .i64 0)),some ((.t q40),true)⟩,⟨0,1,1⟩),
  (⟨(.slot q52),.pick (.t q40) (.t q42) (.k (.bool false)),none⟩,⟨0,1,1⟩),
  (⟨(.slot q60),.move (.t q11),none⟩,⟨0,1,1⟩),
  (⟨(.slot q70),.move (.t q52),none⟩,⟨0,1,1⟩)])
 .ret))))),[(q60,none),(q70,none)],[]⟩
def c343 : CFn := ⟨[some q60,some q70],(.seq (.reg (.gen ⟨(.slot q),.box (.t q60),none⟩
  (.gen ⟨(.slot q0),.box (.t q70),none⟩
  (.sm q1 (.k (.int .i64 0))
  .fin))))
 (.seq (.regd [(⟨(.slot q2),.faddr 0 (.t q),none⟩,⟨0,0,0⟩),
  (⟨(.slot q3),.load false 1 (.t q2),none⟩,⟨1,0,0⟩),
  (⟨(.slot q4),.faddr 0 (.t q0),none⟩,⟨0,0,0⟩),
  (⟨(.slot q5),.load false 1 (.t q4),none⟩,⟨1,0,0⟩),
  (⟨(.slot q6),.call q034 [(.t q3),(.t q5)],none⟩,⟨3,0,1⟩),
  (⟨(.slot q7),.faddr 1 (.t q),none⟩,⟨0,0,1⟩),
  (⟨(.slot q00),.load false 1 (.t q7),none⟩,⟨1,0,1⟩),
  (⟨(.slot q10),.faddr 1 (.t q0),none⟩,⟨0,0,1⟩),
  (⟨(.slot q20),.load false 1 (.t q10),none⟩,⟨1,0,1⟩),
  (⟨(.slot q30),.call q034 [(.t q00),(.t q20)],none⟩,⟨3,1,2⟩),
  (⟨(.slot q40),.bsl 1 2 [(.int .i64 0)] [(0,(.t q6)),(1,(.t q30))],none⟩,⟨2,2,2⟩),
  (⟨(.slot q50),.call q255 [(.t q40)],none⟩,⟨3,2,3⟩),
  (⟨(.slot q1),.move (.t q50),none⟩,⟨0,3,3⟩)])
 .ret)),[(q1,none)],[]⟩
def c344 : CFn := ⟨[some q0,some q1],(.seq (.reg (.sm q (.k (.bool false))
  .fin))
 (.seq (.reg (.st 1 (.t q1) (.t q0)
  .fin))
 (.seq (.reg (.sm q (.k (.bool false))
  .fin))
 .ret))),[(q,none)],[]⟩
def c345 : CFn := ⟨[some q11,some q60],(.seq (.reg (.sm q01 (.k .snil)
  .fin))
 (.seq (.reg (.sm q3 (.k .snil)
  .fin))
 (.seq (.seq (.reg (.sm q50 (.t q11)
  (.gen ⟨(.slot q70),.len (.t q50),none⟩
  (.sm q (.k (.int .i64 0))
  .fin))))
 (.block 0 (.loop (.seq (.regc (.pb .lss (.t q) (.t q70)
  .fin) (.l x0) .skip (.exit 0))
 (.seq (.block 1 (.seq (.reg (.pia 2 (.t q50) (.t q)
  (.pld true 2 (.l x0)
  (.gen ⟨(.slot q1),.box (.k (.agg [(.bool false),.snil])),none⟩
  (.st 2 (.t q1) (.l x0)
  .fin)))))
 (.seq (.regd [(⟨(.slot q6),.load true 2 (.t q1),none⟩,⟨1,0,1⟩),
  (⟨(.slot q7),.move (.t q60),none⟩,⟨0,0,0⟩),
  (⟨(.slot q00),.call q211 [(.t q7)],none⟩,⟨3,0,1⟩),
  (⟨(.slot q10),.call q063 [(.t q6),(.t q00)],none⟩,⟨3,1,2⟩),
  (⟨(.slot q0),.move (.t q10),none⟩,⟨0,2,2⟩),
  (⟨(.slot q20),.extract (.t q0) 0,none⟩,⟨0,2,2⟩),
  (⟨(.slot q30),.extract (.t q0) 1,none⟩,⟨0,2,3⟩),
  (⟨(.slot q40),.extract (.t q0) 2,none⟩,⟨0,2,4⟩),
  (⟨(.slot q4),.box (.k (.agg [(.bool false),.snil])),none⟩,⟨2,0,2⟩),
  (⟨(.slot q2),.box (.k (.agg [(.bool false),.snil])),none⟩,⟨2,0,2⟩),
  (⟨.drop,.store 2 (.t q4) (.t q20),none⟩,⟨3,2,3⟩),
  (⟨.drop,.store 2 (.t q2) (.t q30),none⟩,⟨3,3,4⟩),
  (⟨.drop,.move (.t q40),none⟩,⟨0,4,4⟩)])
 (.seq (.reg (.pld true 2 (.t q2)
  (.pca q355 [(.l x0)]
  (.pex (.l x0) 0
  (.pex (.l x1) 1
  (.sm q5 (.l x1)
  .fin))))))
 (.reg (.gen ⟨.push,.bsl 1 1 [(.int .i64 0)] [(0,(.t q5))],none⟩
  (.gen ⟨.push,.append 1 8 (.t q3) (.l x0),none⟩
  (.sm q3 (.l x0)
  .fin))))))))
 (.reg (.pb .add (.t q) (.k (.int .i64 1))
  (.sm q (.l x0)
  .fin))))))))
 (.seq (.reg (.pca q455 [(.t q60),(.t q3)]
  (.pex (.l x0) 0
  (.pex (.l x1) 1
  (.sm q3 (.l x1)
  .fin)))))
 (.seq (.reg (.sm q01 (.t q3)
  .fin))
 .ret))))),[(q01,none)],[]⟩
def c346 : CFn := ⟨[some q3,some q1],(.seq (.reg (.sm q2 (.k (.int .i64 0))
  (.sm q (.k .snil)
  (.sm q0 (.k (.int .i64 0))
  .fin))))
 (.seq (.reg (.pca q555 [(.t q3),(.t q1)]
  (.pex (.l x0) 0
  (.pex (.l x1) 1
  (.sm q1 (.l x1)
  (.sm q0 (.l x0)
  .fin))))))
 (.seq (.regc (.pb .neq (.t q0) (.k (.int .i64 0))
  .fin) (.l x0) (.seq (.reg (.gen ⟨.push,.move (.t q0),none⟩
  (.sm q2 (.k (.int .i64 0))
  (.sm q (.k .snil)
  (.sm q0 (.l x0)
  .fin)))))
 .ret) .skip)
 (.seq (.reg (.pca q755 [(.t q3),(.t q1)]
  (.pca q655 [(.t q3),(.l x0),(.k (.int .i64 1))]
  (.sm q (.l x0)
  .fin))))
 (.seq (.reg (.pca q065 [(.t q),(.k (.fnv q165 []))]
  .fin))
 (.seq (.reg (.pln (.t q1)
  (.pb .sub (.l x0) (.k (.int .i64 1))
  (.pia 1 (.t q1) (.l x0)
  (.pld false 1 (.l x0)
  (.gen ⟨.push,.move (.t q),none⟩
  (.sm q2 (.l x1)
  (.sm q (.l x0)
  (.sm q0 (.k (.int .i64 0))
  .fin)))))))))
 .ret)))))),[(q2,none),(q,none),(q0,none)],[]⟩
def c357 : CFn := ⟨[some q4,some q5],(.seq (.reg (.gen ⟨(.slot q2),.box (.t q4),none⟩
  (.sm q (.k .snil)
  (.sm q0 (.k (.int .i64 0))
  .fin))))
 (.seq (.reg (.pld true 1 (.t q2)
  (.pca q011 [(.l x0)]
  (.pex (.l x0) 0
  (.pex (.l x1) 1
  (.sm q3 (.l x1)
  (.sm q1 (.l x0)
  .fin)))))))
 (.seq (.regc (.pb .neq (.t q1) (.k (.int .i64 0))
  .fin) (.l x0) (.seq (.reg (.gen ⟨.push,.move (.t q1),none⟩
  (.sm q (.k .snil)
  (.sm q0 (.l x0)
  .fin))))
 .ret) .skip)
 (.seq (.reg (.pca q775 [(.t q3),(.t q5)]
  (.pex (.l x0) 0
  (.pex (.l x1) 1
  (.sm q (.l x1)
  (.sm q0 (.l x0)
  .fin))))))
 .ret)))),[(q,none),(q0,none)],[]⟩
def c358 : CFn := ⟨[some q1],(.seq (.reg (.gen ⟨(.slot q),.box (.t q1),none⟩
  (.sm q0 (.k (.bool false))
  .fin)))
 (.seq (.reg (.pfa 0 (.t q)
  (.pld false 1 (.l x0)
  (.pca q051 [(.l x0)]
  (.gen ⟨.push,.faddr 1 (.t q),some ((.l x0),true)⟩
  (.gen ⟨.push,.load false 1 (.l x0),some ((.l x1),true)⟩
  (.gen ⟨.push,.call q051 [(.l x0)],some ((.l x2),true)⟩
  (.gen ⟨.push,.pick (.l x3) (.l x0) (.k (.bool false)),none⟩
  (.gen ⟨.push,.faddr 2 (.t q),some ((.l x0),true)⟩
  (.gen ⟨.push,.load false 1 (.l x0),some ((.l x1),true)⟩
  (.gen ⟨.push,.call q051 [(.l x0)],some ((.l x2),true)⟩
  (.gen ⟨.push,.pick (.l x3) (.l x0) (.k (.bool false)),none⟩
  (.gen ⟨.push,.faddr 3 (.t q),some ((.l x0),true)⟩
  (.gen ⟨.push,.load false 1 (.l x0),some ((.l x1),true)⟩
  (.gen ⟨.push,.call q051 [(.l x0)],some ((.l x2),true)⟩
  (.gen ⟨.push,.pick (.l x3) (.l x0) (.k (.bool false)),none⟩
  (.sm q0 (.l x0)
  .fin)))))))))))))))))
 .ret)),[(q0,none)],[]⟩
def c360 : CFn := ⟨[some q6,some q5,some q0],(.seq (.reg (.pld false 1 (.t q0)
  (.pln (.l x0)
  (.sm q7 (.l x0)
  .fin))))
 (.seq (.reg (.sm q2 (.t q6)
  .fin))
 (.block 0 (.loop (.seq (.regc (.pb .gtr (.t q5) (.k (.int .i64 0))
  .fin) (.l x0) .skip (.exit 0))
 (.seq (.block 1 (.seq (.reg (.pld false 1 (.t q0)
  (.gen ⟨(.slot q3),.slc 1 (.l x0) none (some (.t q7)),none⟩
  (.gen ⟨(.slot q4),.len (.t q3),none⟩
  (.sm q (.k (.int .i64 0))
  .fin)))))
 (.block 2 (.loop (.seq (.regc (.pb .lss (.t q) (.t q4)
  .fin) (.l x0) .skip (.exit 2))
 (.seq (.block 3 (.seq (.reg (.pia 1 (.t q3) (.t q)
  (.pld false 1 (.l x0)
  (.sm q1 (.l x0)
  .fin))))
 (.reg (.pld false 1 (.t q0)
  (.pb .mul (.t q1) (.t q2)
  (.gen ⟨.push,.bsl 1 1 [(.int .i64 0)] [(0,(.l x0))],none⟩
  (.gen ⟨.push,.append 1 8 (.l x2) (.l x0),none⟩
  (.st 1 (.t q0) (.l x0)
  .fin))))))))
 (.reg (.pb .add (.t q) (.k (.int .i64 1))
  (.sm q (.l x0)
  .fin)))))))))
 (.reg (.pb .sub (.t q5) (.k (.int .i64 1))
  (.pb .mul (.t q2) (.t q6)
  (.sm q5 (.l x1)
  (.sm q2 (.l x0)
  .fin))))))))))),[],[]⟩
def c361 : CFn := ⟨[some q0],(.seq (.reg (.pln (.t q0)
  (.sm q (.l x0)
  .fin)))
 (.reg (.pcv .u64 (.t q)
  (.pca q243 [(.l x0)]
  (.pca q006 [(.t q0),(.k (.int .i64 0)),(.t q),(.l x0)]
  .fin))))),[],[]⟩
def c362 : CFn := ⟨[some q5],(.seq (.reg (.sm q1 (.k (.int .i64 0))
  .fin))
 (.seq (.reg (.sm q2 (.k (.int .i64 0))
  .fin))
 (.seq (.seq (.reg (.sm q3 (.t q5)
  (.gen ⟨(.slot q4),.len (.t q3),none⟩
  (.sm q (.k (.int .i64 0))
  .fin))))
 (.block 0 (.loop (.seq (.regc (.pb .lss (.t q) (.t q4)
  .fin) (.l x0) .skip (.exit 0))
 (.seq (.block 1 (.seq (.reg (.pia 1 (.t q3) (.t q)
  (.pld false 1 (.l x0)
  (.sm q0 (.l x0)
  .fin))))
 (.regc (.pb .neq (.t q0) (.t q2)
  .fin) (.l x0) (.seq (.reg (.sm q1 (.t q0)
  .fin))
 .ret) .skip)))
 (.reg (.pb .add (.t q) (.k (.int .i64 1))
  (.sm q (.l x0)
  .fin))))))))
 (.seq (.reg (.sm q1 (.t q2)
  .fin))
 .ret)))),[(q1,none)],[]⟩
def c363 : CFn := ⟨[some q4],(.seq (.reg (.gen ⟨(.slot q2),.box (.t q4),none⟩
  (.sm q0 (.k (.int .i64 0))
  (.sm q1 (.k (.bool false))
  .fin))))
 (.seq (.reg (.pfa 1 (.t q2)
  (.pld false 1 (.l x0)
  (.pca q231 [(.l x0)]
  (.sm q3 (.l x0)
  .fin)))))
 (.seq (.regc (.pln (.t q3)
  (.pb .gtr (.l x0) (.k (.int .i64 2))
  .fin)) (.l x0) (.seq (.reg (.sm q0 (.k (.int .i64 0))
  (.sm q1 (.k (.bool false))
  .fin)))
 .ret) .skip)
 (.seq (.reg (.pca q744 [(.t q3)]
  (.sm q (.l x0)
  .fin)))
 (.seq (.regc (.pb .gtr (.t q) (.k (.int .u64 9223372036854775808))
  (.gen ⟨.push,.move (.t q),some ((.l x0),false)⟩
  (.gen ⟨.push,.bin .eql (.l x0) (.k (.int .u64 9223372036854775808)),some ((.l x1),false)⟩
  (.gen ⟨.push,.move (.l x0),some ((.l x2),false)⟩
  (.gen ⟨.push,.faddr 0 (.t q2),some ((.l x0),true)⟩
  (.gen ⟨.push,.load false 1 (.l x0),some ((.l x1),true)⟩
  (.gen ⟨.push,.un .not (.l x0),some ((.l x2),true)⟩
  (.gen ⟨.push,.pick (.l x3) (.l x0) (.k (.bool false)),some ((.l x6),false)⟩
  (.gen ⟨.push,.pick (.l x7) (.k (.bool true)) (.l x0),none⟩
  .fin))))))))) (.l x0) (.seq (.reg (.sm q0 (.k (.int .i64 0))
  (.sm q1 (.k (.bool false))
  .fin)))
 .ret) .skip)
 (.seq (.regc (.pfa 0 (.t q2)
  (.pld false 1 (.l x0)
  .fin)) (.l x0) (.reg (.gen ⟨.push,.un .neg (.t q),none⟩
  (.sm q (.l x0)
  .fin))) .skip)
 (.seq (.reg (.pcv .i64 (.t q)
  (.sm q0 (.l x0)
  (.sm q1 (.k (.bool true))
  .fin))))
 .ret))))))),[(q0,none),(q1,none)],[]⟩
def c364 : CFn := ⟨[some q2,some q3],(.seq (.reg (.sm q (.k .snil)
  (.sm q0 (.k (.int .i64 0))
  .fin)))
 (.seq (.seq (.reg (.pca q365 [(.t q2)]
  (.sm q1 (.l x0)
  .fin)))
 (.regc (.pb .neq (.t q1) (.k (.int .i64 0))
  .fin) (.l x0) (.seq (.reg (.gen ⟨.push,.move (.t q1),none⟩
  (.sm q (.k .snil)
  (.sm q0 (.l x0)
  .fin))))
 .ret) .skip))
 (.seq (.reg (.pca q565 [(.t q2),(.t q3)]
  (.sm q (.l x0)
  (.sm q0 (.k (.int .i64 0))
  .fin))))
 .ret))),[(q,none),(q0,none)],[]⟩
def c365 : CFn := ⟨[some q3,some q1],(.seq (.reg (.sm q (.k .snil)
  (.sm q0 (.k (.int .i64 0))
  .fin)))
 (.seq (.seq (.reg (.pca q365 [(.t q3)]
  (.sm q2 (.l x0)
  .fin)))
 (.regc (.pb .neq (.t q2) (.k (.int .i64 0))
  .fin) (.l x0) (.seq (.reg (.gen ⟨.push,.move (.t q2),none⟩
  (.sm q (.k .snil)
  (.sm q0 (.l x0)
  .fin))))
 .ret) .skip))
 (.seq (.reg (.pca q565 [(.t q3),(.t q1)]
  (.sm q1 (.l x0)
  .fin)))
 (.seq (.regc (.pln (.t q1)
  (.pb .eql (.l x0) (.k (.int .i64 0))
  .fin)) (.l x0) (.seq (.reg (.sm q (.k .snil)
  (.sm q0 (.k (.int .i64 5))
  .fin)))
 .ret) .skip)
 (.seq (.regc (.pln (.t q1)
  (.pb .sub (.l x0) (.k (.int .i64 1))
  (.pb .gtr (.l x0) (.k (.int .i64 64))
  .fin))) (.l x0) (.seq (.reg (.sm q (.k .snil)
  (.sm q0 (.k (.int .i64 7))
  .fin)))
 .ret) .skip)
 (.seq (.reg (.sm q (.t q1)
  (.sm q0 (.k (.int .i64 0))
  .fin)))
 .ret)))))),[(q,none),(q0,none)],[]⟩
def c366 : CFn := ⟨[some q10,some q01,some q5],(.seq (.reg (.sm q11 (.k .snil)
  .fin))
 (.seq (.regc (.pln (.t q01)
  (.pb .leq (.l x0) (.k (.int .i64 1))
  .fin)) (.l x0) (.seq (.reg (.sm q11 (.k .snil)
  .fin))
 .ret) .skip)
 (.seq (.reg (.pca q106 [(.t q10),(.t q01)]
  (.sm q21 (.l x0)
  .fin)))
 (.seq (.regc (.pln (.t q21)
  (.pb .eql (.l x0) (.k (.int .i64 0))
  .fin)) (.l x0) (.seq (.reg (.pca q206 [(.t q10),(.t q01)]
  (.pb .mul (.t q5) (.t q10)
  (.pca q655 [(.t q10),(.l x1),(.l x0)]
  (.sm q11 (.l x0)
  .fin)))))
 .ret) .skip)
 (.seq (.reg (.sm q0 (.k .snil)
  .fin))
 (.seq (.reg (.pca q306 [(.t q10),(.t q01),(.t q21)]
  (.sm q60 (.l x0)
  .fin)))
 (.seq (.reg (.pca q765 [(.t q10),(.t q01),(.t q60)]
  (.pex (.l x0) 0
  (.pex (.l x1) 1
  (.sm q40 (.l x1)
  .fin)))))
 (.seq (.seq (.reg (.sm q4 (.k (.int .i64 1))
  .fin))
 (.block 0 (.loop (.seq (.regc (.pln (.t q40)
  (.pb .gtr (.l x0) (.k (.int .i64 1))
  .fin)) (.l x0) .skip (.exit 0))
 (.seq (.block 1 (.seq (.reg (.pca q306 [(.t q10),(.t q40),(.t q60)]
  (.sm q50 (.l x0)
  .fin)))
 (.seq (.reg (.pca q765 [(.t q10),(.t q40),(.t q50)]
  (.pex (.l x0) 0
  (.pex (.l x1) 1
  (.sm q70 (.l x1)
  .fin)))))
 (.seq (.seq (.reg (.gen ⟨(.slot q20),.call q406 [(.t q10),(.t q70)],none⟩
  (.gen ⟨(.slot q30),.len (.t q20),none⟩
  (.sm q6 (.k (.int .i64 0))
  .fin))))
 (.block 2 (.loop (.seq (.regc (.pb .lss (.t q6) (.t q30)
  .fin) (.l x0) .skip (.exit 2))
 (.seq (.block 3 (.seq (.reg (.pia 1 (.t q20) (.t q6)
  (.pld false 1 (.l x0)
  (.sm q7 (.t q6)
  (.sm q00 (.l x0)
  .fin)))))
 (.seq (.reg (.gen ⟨.push,.max [(.t q7),(.k (.int .i64 1))],none⟩
  (.gen ⟨(.slot q2),.call q506 [(.t q10),(.l x0),(.t q00)],none⟩
  (.gen ⟨(.slot q3),.len (.t q2),none⟩
  (.sm q (.k (.int .i64 0))
  .fin)))))
 (.block 4 (.loop (.seq (.regc (.pb .lss (.t q) (.t q3)
  .fin) (.l x0) .skip (.exit 4))
 (.seq (.block 5 (.seq (.reg (.pia 1 (.t q2) (.t q)
  (.pld false 1 (.l x0)
  (.sm q1 (.l x0)
  .fin))))
 (.reg (.pb .mul (.t q4) (.t q5)
  (.gen ⟨.push,.build [.snil,(.int .i64 0)] [(0,1,(.t q1)),(1,1,(.l x0))],none⟩
  (.gen ⟨.push,.bsl 2 1 [.snil,(.int .i64 0)] [(0,(.l x0))],none⟩
  (.gen ⟨.push,.append 2 32 (.t q0) (.l x0),none⟩
  (.sm q0 (.l x0)
  .fin))))))))
 (.reg (.pb .add (.t q) (.k (.int .i64 1))
  (.sm q (.l x0)
  .fin))))))))))
 (.reg (.pb .add (.t q6) (.k (.int .i64 1))
  (.sm q6 (.l x0)
  .fin))))))))
 (.seq (.reg (.sm q40 (.t q50)
  .fin))
 (.reg (.pca q765 [(.t q10),(.t q60),(.t q50)]
  (.pex (.l x0) 0
  (.pex (.l x1) 1
  (.sm q60 (.l x1)
  .fin))))))))))
 (.reg (.pb .add (.t q4) (.k (.int .i64 1))
  (.sm q4 (.l x0)
  .fin))))))))
 (.seq (.reg (.pca q655 [(.t q10),(.t q60),(.t q5)]
  (.gen ⟨.push,.append 2 32 (.t q0) (.l x0),none⟩
  (.sm q11 (.l x0)
  .fin))))
 .ret))))))))),[(q11,none)],[]⟩
def c367 : CFn := ⟨[some q1,some q],(.seq (.reg (.sm q0 (.k .snil)
  .fin))
 (.seq (.regc (.pln (.t q)
  (.pb .eql (.l x0) (.k (.int .i64 0))
  .fin)) (.l x0) (.seq (.reg (.sm q0 (.k .snil)
  .fin))
 .ret) .skip)
 (.seq (.reg (.pln (.t q)
  (.pb .sub (.l x0) (.k (.int .i64 1))
  (.pia 1 (.t q) (.l x0)
  (.pld false 1 (.l x0)
  (.pca q665 [(.l x0),(.t q1)]
  (.pca q175 [(.t q1),(.t q),(.l x0)]
  (.sm q0 (.l x0)
  .fin))))))))
 .ret))),[(q0,none)],[]⟩
def c368 : CFn := ⟨[some q0,some q1],(.seq (.reg (.pln (.t q0)
  (.sm q (.l x0)
  .fin)))
 (.reg (.pcv .u64 (.t q)
  (.pca q243 [(.l x0)]
  (.pca q606 [(.t q0),(.k (.int .i64 0)),(.t q),(.l x0),(.t q1)]
  .fin))))),[],[]⟩
def c371 : CFn := ⟨[some q0],(.seq (.reg (.sm q (.k (.int .i64 0))
  .fin))
 (.seq (.regc (.pb .lss (.t q0) (.k (.int .i64 2))
  (.gen ⟨.push,.move (.t q0),some ((.l x0),false)⟩
  (.gen ⟨.push,.bin .gtr (.l x0) (.k (.int .i64 65521)),some ((.l x1),false)⟩
  (.gen ⟨.push,.pick (.l x2) (.k (.bool true)) (.l x0),none⟩
  .fin)))) (.l x0) (.seq (.reg (.sm q (.k (.int .i64 8))
  .fin))
 .ret) .skip)
 (.seq (.seq (.reg (.pca q461 [(.t q0)]
  (.pex (.l x0) 0
  (.pex (.l x1) 1
  (.sm q1 (.l x1)
  .fin)))))
 (.regc (.gen ⟨.push,.un .not (.t q1),none⟩
  .fin) (.l x0) (.seq (.reg (.sm q (.k (.int .i64 8))
  .fin))
 .ret) .skip))
 (.seq (.reg (.sm q (.k (.int .i64 0))
  .fin))
 .ret)))),[(q,none)],[]⟩
def c373 : CFn := ⟨[some q5,some q7],(.seq (.reg (.sm q6 (.k .snil)
  .fin))
 (.seq (.reg (.pln (.t q7)
  (.gen ⟨.push,.mksl 1 8 [(.int .i64 0)] (.l x0) (.l x0),none⟩
  (.sm q2 (.l x0)
  .fin))))
 (.seq (.seq (.reg (.sm q3 (.t q7)
  (.gen ⟨(.slot q4),.len (.t q3),none⟩
  (.sm q (.k (.int .i64 0))
  .fin))))
 (.block 0 (.loop (.seq (.regc (.pb .lss (.t q) (.t q4)
  .fin) (.l x0) .skip (.exit 0))
 (.seq (.block 1 (.seq (.reg (.pia 1 (.t q3) (.t q)
  (.pld false 1 (.l x0)
  (.sm q0 (.t q)
  (.sm q1 (.l x0)
  .fin)))))
 (.reg (.pca q016 [(.t q1),(.t q5)]
  (.pia 1 (.t q2) (.t q0)
  (.st 1 (.l x0) (.l x1)
  .fin))))))
 (.reg (.pb .add (.t q) (.k (.int .i64 1))
  (.sm q (.l x0)
  .fin))))))))
 (.seq (.reg (.pca q706 [(.t q2)]
  (.sm q6 (.l x0)
  .fin)))
 .ret)))),[(q6,none)],[]⟩
def c374 : CFn := ⟨[some q1,some q2],(.seq (.reg (.sm q (.k (.int .i64 0))
  .fin))
 (.seq (.reg (.pca q421 [(.t q1),(.t q2)]
  (.pex (.l x0) 0
  (.pex (.l x1) 1
  (.sm q0 (.l x1)
  .fin)))))
 (.seq (.reg (.sm q (.t q0)
  .fin))
 .ret))),[(q,none)],[]⟩
def c375 : CFn := ⟨[some q3,some q30,some q00],(.seq (.reg (.sm q10 (.k .snil)
  (.sm q2 (.k .snil)
  .fin)))
 (.seq (.reg (.pca q116 [(.t q30)]
  (.sm q2 (.l x0)
  .fin)))
 (.seq (.regc (.pln (.t q30)
  (.pln (.t q00)
  (.pb .lss (.l x1) (.l x0)
  .fin))) (.l x0) (.seq (.reg (.gen ⟨.push,.move (.t q2),none⟩
  (.sm q10 (.k .snil)
  (.sm q2 (.l x0)
  .fin))))
 .ret) .skip)
 (.seq (.reg (.pln (.t q00)
  (.pb .sub (.l x0) (.k (.int .i64 1))
  (.pia 1 (.t q00) (.l x0)
  (.pld false 1 (.l x0)
  (.pca q665 [(.l x0),(.t q3)]
  (.sm q20 (.l x0)
  .fin)))))))
 (.seq (.reg (.pln (.t q30)
  (.pln (.t q00)
  (.pb .sub (.l x1) (.l x0)
  (.pb .add (.l x0) (.k (.int .i64 1))
  (.gen ⟨.push,.mksl 1 8 [(.int .i64 0)] (.l x0) (.l x0),none⟩
  (.sm q10 (.l x0)
  .fin)))))))
 (.seq (.seq (.reg (.pln (.t q10)
  (.pb .sub (.l x0) (.k (.int .i64 1))
  (.sm q1 (.l x0)
  .fin))))
 (.block 0 (.loop (.seq (.regc (.pb .geq (.t q1) (.k (.int .i64 0))
  .fin) (.l x0) .skip (.exit 0))
 (.seq (.block 1 (.seq (.reg (.pln (.t q00)
  (.pb .add (.t q1) (.l x0)
  (.pb .sub (.l x0) (.k (.int .i64 1))
  (.pia 1 (.t q2) (.l x0)
  (.pld false 1 (.l x0)
  (.pb .mul (.l x0) (.t q20)
  (.pb .rem (.l x0) (.t q3)
  (.sm q5 (.l x0)
  .fin)))))))))
 (.seq (.reg (.pia 1 (.t q10) (.t q1)
  (.st 1 (.l x0) (.t q5)
  .fin)))
 (.seq (.reg (.sm q6 (.t q00)
  (.gen ⟨(.slot q7),.len (.t q6),none⟩
  (.sm q (.k (.int .i64 0))
  .fin))))
 (.block 2 (.loop (.seq (.regc (.pb .lss (.t q) (.t q7)
  .fin) (.l x0) .skip (.exit 2))
 (.seq (.block 3 (.seq (.reg (.pia 1 (.t q6) (.t q)
  (.pld false 1 (.l x0)
  (.sm q0 (.t q)
  (.sm q4 (.l x0)
  .fin)))))
 (.reg (.pb .add (.t q1) (.t q0)
  (.pb .add (.t q1) (.t q0)
  (.pia 1 (.t q2) (.l x0)
  (.pld false 1 (.l x0)
  (.pb .sub (.t q3) (.t q5)
  (.pb .mul (.l x0) (.t q4)
  (.pb .add (.l x2) (.l x0)
  (.pb .rem (.l x0) (.t q3)
  (.pia 1 (.t q2) (.l x7)
  (.st 1 (.l x0) (.l x1)
  .fin)))))))))))))
 (.reg (.pb .add (.t q) (.k (.int .i64 1))
  (.sm q (.l x0)
  .fin)))))))))))
 (.reg (.pb .sub (.t q1) (.k (.int .i64 1))
  (.sm q1 (.l x0)
  .fin))))))))
 (.seq (.reg (.pca q706 [(.t q2)]
  (.sm q10 (.t q10)
  (.sm q2 (.l x0)
  .fin))))
 .ret))))))),[(q10,none),(q2,none)],[]⟩
def c376 : CFn := ⟨[some q5,some q2,some q3,some q6],(.seq (.reg (.sm q7 (.k .snil)
  .fin))
 (.seq (.reg (.pln (.t q2)
  (.pln (.t q3)
  (.gen ⟨.push,.max [(.l x1),(.l x0)],none⟩
  (.gen ⟨.push,.mksl 1 8 [(.int .i64 0)] (.l x0) (.l x0),none⟩
  (.sm q1 (.l x0)
  .fin))))))
 (.seq (.seq (.reg (.gen ⟨(.slot q4),.len (.t q1),none⟩
  (.sm q (.k (.int .i64 0))
  .fin)))
 (.block 0 (.loop (.seq (.regc (.pb .lss (.t q) (.t q4)
  .fin) (.l x0) .skip (.exit 0))
 (.seq (.block 1 (.seq (.reg (.sm q0 (.t q)
  .fin))
 (.reg (.pca q216 [(.t q2),(.t q0)]
  (.pca q216 [(.t q3),(.t q0)]
  (.pb .mul (.t q6) (.l x0)
  (.pb .add (.l x2) (.l x0)
  (.pb .rem (.l x0) (.t q5)
  (.pia 1 (.t q1) (.t q0)
  (.st 1 (.l x0) (.l x1)
  .fin))))))))))
 (.reg (.pb .add (.t q) (.k (.int .i64 1))
  (.sm q (.l x0)
  .fin))))))))
 (.seq (.reg (.pca q706 [(.t q1)]
  (.sm q7 (.l x0)
  .fin)))
 .ret)))),[(q7,none)],[]⟩
def c377 : CFn := ⟨[some q0,some q1,some q2],(.seq (.reg (.sm q (.k .snil)
  .fin))
 (.seq (.reg (.pca q075 [(.t q0),(.k .snil),(.t q1),(.t q2)]
  (.sm q (.l x0)
  .fin)))
 .ret)),[(q,none)],[]⟩
def c383 : CFn := ⟨[some q2,some q1],(.seq (.reg (.sm q (.k .snil)
  (.sm q0 (.k (.int .i64 0))
  .fin)))
 (.seq (.reg (.pca q111 [(.t q2),(.t q1)]
  (.sm q1 (.l x0)
  .fin)))
 (.seq (.regc (.pln (.t q1)
  (.pb .eql (.l x0) (.k (.int .i64 0))
  .fin)) (.l x0) (.seq (.reg (.sm q (.k .snil)
  (.sm q0 (.k (.int .i64 5))
  .fin)))
 .ret) .skip)
 (.seq (.reg (.gen ⟨.push,.nilc (.t q2),none⟩
  (.pfa 0 (.l x0)
  (.pld false 1 (.l x0)
  (.pca q316 [(.t q1),(.l x0)]
  (.pex (.l x0) 0
  (.pex (.l x1) 1
  (.pex (.l x2) 2
  (.sm q3 (.l x2)
  (.sm q4 (.l x1)
  .fin))))))))))
 (.seq (.regc (.pln (.t q3)
  (.pb .gtr (.l x0) (.k (.int .i64 1))
  .fin)) (.l x0) (.seq (.reg (.sm q (.k .snil)
  (.sm q0 (.k (.int .i64 11))
  .fin)))
 .ret) .skip)
 (.seq (.reg (.pca q111 [(.t q2),(.t q4)]
  (.sm q (.l x0)
  (.sm q0 (.k (.int .i64 0))
  .fin))))
 .ret)))))),[(q,none),(q0,none)],[]⟩
def c384 : CFn := ⟨[some q2,some q,some q0,some q5],(.seq (.reg (.sm q6 (.k (.bool true))
  .fin))
 (.seq (.reg (.sm q40 (.k (.bool true))
  .fin))
 (.block 0 (.loop (.block 1 (.seq (.reg (.pb .sub (.t q0) (.t q)
  (.sm q00 (.l x0)
  .fin)))
 (.seq (.regc (.pb .leq (.t q00) (.k (.int .i64 12))
  .fin) (.l x0) (.seq (.reg (.pca q416 [(.t q2),(.t q),(.t q0)]
  .fin))
 .ret) .skip)
 (.seq (.regc (.pb .eql (.t q5) (.k (.int .i64 0))
  .fin) (.l x0) (.seq (.reg (.pca q516 [(.t q2),(.t q),(.t q0)]
  .fin))
 .ret) .skip)
 (.seq (.regc (.gen ⟨.push,.un .not (.t q6),none⟩
  .fin) (.l x0) (.seq (.reg (.pca q616 [(.t q2),(.t q),(.t q0)]
  .fin))
 (.reg (.pb .sub (.t q5) (.k (.int .i64 1))
  (.sm q5 (.l x0)
  .fin)))) .skip)
 (.seq (.reg (.pca q716 [(.t q2),(.t q),(.t q0)]
  (.pex (.l x0) 0
  (.pex (.l x1) 1
  (.sm q4 (.l x1)
  (.sm q7 (.l x0)
  .fin))))))
 (.seq (.regc (.pb .eql (.t q7) (.k (.int .i64 2))
  .fin) (.l x0) (.seq (.reg (.pca q026 [(.t q2),(.t q),(.t q0)]
  .fin))
 (.seq (.reg (.pb .sub (.t q0) (.k (.int .i64 1))
  (.pb .sub (.t q4) (.t q)
  (.pb .sub (.l x1) (.l x0)
  (.sm q4 (.l x0)
  .fin)))))
 (.reg (.sm q7 (.k (.int .i64 1))
  .fin)))) .skip)
 (.seq (.regc (.gen ⟨.push,.move (.t q40),some ((.t q6),true)⟩
  (.gen ⟨.push,.pick (.t q6) (.l x0) (.k (.bool false)),none⟩
  (.gen ⟨.push,.move (.t q7),some ((.l x0),true)⟩
  (.gen ⟨.push,.bin .eql (.l x0) (.k (.int .i64 1)),some ((.l x1),true)⟩
  (.gen ⟨.push,.pick (.l x2) (.l x0) (.k (.bool false)),none⟩
  .fin))))) (.l x0) (.regc (.pca q126 [(.t q2),(.t q),(.t q0)]
  .fin) (.l x0) .ret .skip) .skip)
 (.seq (.seq (.regd [(⟨(.slot q70),.move (.t q),none⟩,⟨0,0,0⟩),
  (⟨(.slot q01),.bin .gtr (.t q70) (.k (.int .i64 0)),none⟩,⟨0,0,0⟩),
  (⟨(.slot q1),.move (.t q01),none⟩,⟨0,0,0⟩),
  (⟨(.slot q11),.move (.t q2),some ((.t q1),true)⟩,⟨0,0,0⟩),
  (⟨(.slot q21),.move (.t q),some ((.t q1),true)⟩,⟨0,0,0⟩),
  (⟨(.slot q31),.bin .sub (.t q21) (.k (.int .i64 1)),some ((.t q1),true)⟩,⟨0,0,0⟩),
  (⟨(.slot q41),.iaddr 1 (.t q11) (.t q31),some ((.t q1),true)⟩,⟨0,0,0⟩),
  (⟨(.slot q51),.load false 1 (.t q41),some ((.t q1),true)⟩,⟨1,0,0⟩),
  (⟨(.slot q61),.move (.t q2),some ((.t q1),true)⟩,⟨0,0,0⟩),
  (⟨(.slot q71),.move (.t q4),some ((.t q1),true)⟩,⟨0,0,0⟩),
  (⟨(.slot q02),.iaddr 1 (.t q61) (.t q71),some ((.t q1),true)⟩,⟨0,0,0⟩),
  (⟨(.slot q12),.load false 1 (.t q02),some ((.t q1),true)⟩,⟨1,0,0⟩),
  (⟨(.slot q22),.call q226 [(.t q51),(.t q12)],some ((.t q1),true)⟩,⟨3,0,1⟩),
  (⟨(.slot q32),.un .not (.t q22),some ((.t q1),true)⟩,⟨0,1,1⟩),
  (⟨(.slot q42),.pick (.t q1) (.t q32) (.k (.bool false)),none⟩,⟨0,1,1⟩)])
 (.cond (.t q42) (.seq (.reg (.pca q326 [(.t q2),(.t q),(.t q0),(.t q4)]
  (.sm q50 (.l x0)
  .fin)))
 (.seq (.reg (.sm q (.t q50)
  .fin))
 (.exit 1))) .skip))
 (.seq (.reg (.pca q426 [(.t q2),(.t q),(.t q0),(.t q4)]
  (.pex (.l x0) 0
  (.pex (.l x1) 1
  (.sm q3 (.l x1)
  (.sm q60 (.l x0)
  .fin))))))
 (.seq (.reg (.sm q40 (.t q60)
  .fin))
 (.seq (.reg (.pb .sub (.t q3) (.t q)
  (.pb .sub (.t q0) (.t q3)
  (.sm q10 (.l x1)
  (.sm q20 (.l x0)
  .fin)))))
 (.seq (.reg (.pb .quo (.t q00) (.k (.int .i64 8))
  (.sm q30 (.l x0)
  .fin)))
 (.regc (.pb .lss (.t q10) (.t q20)
  .fin) (.l x0) (.seq (.reg (.pb .geq (.t q10) (.t q30)
  (.sm q6 (.l x0)
  .fin)))
 (.seq (.reg (.pca q006 [(.t q2),(.t q),(.t q3),(.t q5)]
  .fin))
 (.reg (.pb .add (.t q3) (.k (.int .i64 1))
  (.sm q (.l x0)
  .fin))))) (.seq (.reg (.pb .geq (.t q20) (.t q30)
  (.sm q6 (.l x0)
  .fin)))
 (.seq (.reg (.pb .add (.t q3) (.k (.int .i64 1))
  (.pca q006 [(.t q2),(.l x0),(.t q0),(.t q5)]
  .fin)))
 (.reg (.sm q0 (.t q3)
  .fin)))))))))))))))))))))),[],[]⟩
def c385 : CFn := ⟨[some q1,some q2],(.seq (.reg (.sm q01 (.k .snil)
  .fin))
 (.seq (.reg (.sm q0 (.k .snil)
  .fin))
 (.seq (.seq (.reg (.sm q (.k (.int .i64 1))
  .fin))
 (.block 0 (.loop (.seq (.regc (.pln (.t q2)
  (.pb .lss (.t q) (.l x0)
  .fin)) (.l x0) .skip (.exit 0))
 (.seq (.block 1 (.regd [(⟨(.slot q3),.move (.t q0),none⟩,⟨0,0,0⟩),
  (⟨(.slot q4),.move (.t q),none⟩,⟨0,0,0⟩),
  (⟨(.slot q5),.move (.t q1),none⟩,⟨0,0,0⟩),
  (⟨(.slot q6),.bin .rem (.t q4) (.t q5),none⟩,⟨0,0,0⟩),
  (⟨(.slot q7),.move (.t q2),none⟩,⟨0,0,0⟩),
  (⟨(.slot q00),.move (.t q),none⟩,⟨0,0,0⟩),
  (⟨(.slot q10),.iaddr 1 (.t q7) (.t q00),none⟩,⟨0,0,0⟩),
  (⟨(.slot q20),.load false 1 (.t q10),none⟩,⟨1,0,0⟩),
  (⟨(.slot q30),.bin .mul (.t q6) (.t q20),none⟩,⟨0,0,0⟩),
  (⟨(.slot q40),.move (.t q1),none⟩,⟨0,0,0⟩),
  (⟨(.slot q50),.bin .rem (.t q30) (.t q40),none⟩,⟨0,0,0⟩),
  (⟨(.slot q60),.bsl 1 1 [(.int .i64 0)] [(0,(.t q50))],none⟩,⟨2,0,0⟩),
  (⟨(.slot q70),.append 1 8 (.t q3) (.t q60),none⟩,⟨3,0,1⟩),
  (⟨(.slot q0),.move (.t q70),none⟩,⟨0,1,1⟩)]))
 (.reg (.pb .add (.t q) (.k (.int .i64 1))
  (.sm q (.l x0)
  .fin))))))))
 (.seq (.reg (.pca q706 [(.t q0)]
  (.sm q01 (.l x0)
  .fin)))
 .ret)))),[(q01,none)],[]⟩
def c387 : CFn := ⟨[some q2,some q0,some q],(.seq (.reg (.sm q3 (.k .snil)
  .fin))
 (.seq (.block 0 (.loop (.seq (.regc (.pln (.t q)
  (.pb .gtr (.l x0) (.k (.int .i64 0))
  .fin)) (.l x0) .skip (.exit 0))
 (.block 1 (.seq (.reg (.pca q765 [(.t q2),(.t q0),(.t q)]
  (.pex (.l x0) 0
  (.pex (.l x1) 1
  (.sm q1 (.l x0)
  .fin)))))
 (.reg (.gen ⟨.push,.move (.t q1),none⟩
  (.sm q0 (.t q)
  (.sm q (.l x0)
  .fin)))))))))
 (.seq (.reg (.pca q755 [(.t q2),(.t q0)]
  (.sm q3 (.l x0)
  .fin)))
 .ret))),[(q3,none)],[]⟩
def c388 : CFn := ⟨[some q1,some q0],(.seq (.reg (.sm q5 (.k .snil)
  .fin))
 (.seq (.reg (.gen ⟨.push,.bsl 1 1 [(.int .i64 0)] [(0,(.k (.int .i64 1)))],none⟩
  (.gen ⟨.push,.bsl 1 1 [.snil] [(0,(.l x0))],none⟩
  (.sm q (.l x0)
  .fin))))
 (.seq (.reg (.pca q526 []
  (.sm q2 (.l x0)
  .fin)))
 (.seq (.seq (.reg (.sm q3 (.k (.int .i64 1))
  .fin))
 (.block 0 (.loop (.seq (.regc (.pln (.t q0)
  (.pb .gtr (.l x0) (.k (.int .i64 1))
  .fin)) (.l x0) .skip (.exit 0))
 (.seq (.block 1 (.seq (.regc (.pb .mul (.k (.int .i64 2)) (.t q3)
  (.pln (.t q0)
  (.pb .sub (.l x0) (.k (.int .i64 1))
  (.pb .gtr (.l x2) (.l x0)
  .fin)))) (.l x0) (.seq (.block 2 (.loop (.seq (.regc (.pln (.t q)
  (.pln (.t q0)
  (.pb .sub (.l x0) (.k (.int .i64 1))
  (.pb .lss (.l x2) (.l x0)
  .fin)))) (.l x0) .skip (.exit 2))
 (.block 3 (.reg (.gen ⟨.push,.bsl 1 1 [(.int .i64 0)] [(0,(.k (.int .i64 1)))],none⟩
  (.gen ⟨.push,.bsl 1 1 [.snil] [(0,(.l x0))],none⟩
  (.gen ⟨.push,.append 1 24 (.t q) (.l x0),none⟩
  (.sm q (.l x0)
  .fin)))))))))
 (.seq (.reg (.gen ⟨.push,.bsl 1 1 [.snil] [(0,(.t q0))],none⟩
  (.gen ⟨.push,.append 1 24 (.t q) (.l x0),none⟩
  (.sm q5 (.l x0)
  .fin))))
 .ret)) .skip)
 (.seq (.reg (.pca q211 [(.t q1)]
  (.pca q626 [(.t q1),(.t q2),(.l x0),(.t q0)]
  (.sm q2 (.l x0)
  .fin))))
 (.seq (.reg (.pca q526 []
  (.pb .sub (.t q1) (.k (.int .i64 1))
  (.pca q075 [(.t q1),(.t q2),(.l x1),(.l x0)]
  (.pca q306 [(.t q1),(.t q0),(.l x0)]
  (.sm q4 (.l x0)
  .fin))))))
 (.seq (.reg (.gen ⟨.push,.bsl 1 1 [.snil] [(0,(.t q4))],none⟩
  (.gen ⟨.push,.append 1 24 (.t q) (.l x0),none⟩
  (.sm q (.l x0)
  .fin))))
 (.seq (.reg (.pca q765 [(.t q1),(.t q0),(.t q4)]
  (.pex (.l x0) 0
  (.pex (.l x1) 1
  (.sm q0 (.l x1)
  .fin)))))
 (.reg (.pca q765 [(.t q1),(.t q2),(.t q0)]
  (.pex (.l x0) 0
  (.pex (.l x1) 1
  (.sm q2 (.l x0)
  .fin)))))))))))
 (.reg (.pb .add (.t q3) (.k (.int .i64 1))
  (.sm q3 (.l x0)
  .fin))))))))
 (.seq (.reg (.sm q5 (.t q)
  .fin))
 .ret))))),[(q5,none)],[]⟩
def c389 : CFn := ⟨[some q,some q5,some q4],(.seq (.reg (.sm q10 (.k .snil)
  .fin))
 (.seq (.regc (.pln (.t q4)
  (.pb .sub (.l x0) (.k (.int .i64 1))
  (.pb .leq (.l x0) (.t q5)
  .fin))) (.l x0) (.seq (.regc (.pln (.t q4)
  (.pb .eql (.l x0) (.k (.int .i64 1))
  .fin)) (.l x0) (.seq (.reg (.sm q10 (.k .snil)
  .fin))
 .ret) .skip)
 (.seq (.reg (.gen ⟨.push,.bsl 1 1 [.snil] [(0,(.t q4))],none⟩
  (.sm q10 (.l x0)
  .fin)))
 .ret)) .skip)
 (.seq (.reg (.sm q20 (.t q)
  .fin))
 (.block 0 (.loop (.seq (.block 1 (.seq (.reg (.sm q3 (.k .snil)
  .fin))
 (.seq (.seq (.reg (.sm q1 (.t q20)
  .fin))
 (.block 2 (.loop (.seq (.regc (.pb .gtr (.t q1) (.k (.int .i64 0))
  .fin) (.l x0) .skip (.exit 2))
 (.seq (.block 3 (.reg (.pb .rem (.t q1) (.t q)
  (.gen ⟨.push,.bsl 1 1 [(.int .i64 0)] [(0,(.l x0))],none⟩
  (.gen ⟨.push,.append 1 8 (.t q3) (.l x0),none⟩
  (.sm q3 (.l x0)
  .fin))))))
 (.reg (.pb .quo (.t q1) (.t q)
  (.sm q1 (.l x0)
  .fin))))))))
 (.seq (.reg (.pca q765 [(.t q),(.t q3),(.t q4)]
  (.pex (.l x0) 0
  (.pex (.l x1) 1
  (.sm q3 (.l x0)
  .fin)))))
 (.seq (.reg (.pca q306 [(.t q),(.t q4),(.t q3)]
  (.pca q726 [(.t q),(.t q5),(.t q4),(.t q3)]
  (.pca q306 [(.t q),(.t q4),(.l x0)]
  (.gen ⟨(.slot q7),.bsl 1 2 [.snil] [(0,(.l x2)),(1,(.l x0))],none⟩
  (.gen ⟨(.slot q00),.len (.t q7),none⟩
  (.sm q2 (.k (.int .i64 0))
  .fin)))))))
 (.block 4 (.loop (.seq (.regc (.pb .lss (.t q2) (.t q00)
  .fin) (.l x0) .skip (.exit 4))
 (.seq (.block 5 (.seq (.reg (.pia 1 (.t q7) (.t q2)
  (.pld false 1 (.l x0)
  (.sm q0 (.l x0)
  .fin))))
 (.regc (.pln (.t q0)
  (.pb .gtr (.l x0) (.k (.int .i64 1))
  (.gen ⟨.push,.move (.t q0),some ((.l x0),true)⟩
  (.gen ⟨.push,.len (.l x0),some ((.l x1),true)⟩
  (.gen ⟨.push,.move (.t q4),some ((.l x2),true)⟩
  (.gen ⟨.push,.len (.l x0),some ((.l x3),true)⟩
  (.gen ⟨.push,.bin .lss (.l x2) (.l x0),some ((.l x4),true)⟩
  (.gen ⟨.push,.pick (.l x5) (.l x0) (.k (.bool false)),none⟩
  .fin)))))))) (.l x0) (.seq (.reg (.pca q765 [(.t q),(.t q4),(.t q0)]
  (.pex (.l x0) 0
  (.pex (.l x1) 1
  (.sm q6 (.l x1)
  .fin)))))
 (.seq (.reg (.pca q506 [(.t q),(.t q5),(.t q0)]
  (.pca q506 [(.t q),(.t q5),(.t q6)]
  (.gen ⟨.push,.append 1 24 (.l x1) (.l x0),none⟩
  (.sm q10 (.l x0)
  .fin)))))
 .ret)) .skip)))
 (.reg (.pb .add (.t q2) (.k (.int .i64 1))
  (.sm q2 (.l x0)
  .fin))))))))))))
 (.reg (.pb .add (.t q20) (.k (.int .i64 1))
  (.sm q20 (.l x0)
  .fin))))))))),[(q10,none)],[]⟩
def c390 : CFn := ⟨[some q2,some q,some q1,some q6,some q3],(.seq (.reg (.sm q7 (.k (.bool true))
  .fin))
 (.seq (.reg (.sm q50 (.k (.bool true))
  .fin))
 (.block 0 (.loop (.block 1 (.seq (.reg (.pb .sub (.t q1) (.t q)
  (.sm q10 (.l x0)
  .fin)))
 (.seq (.regc (.pb .leq (.t q10) (.k (.int .i64 12))
  .fin) (.l x0) (.seq (.reg (.pca q036 [(.t q2),(.t q),(.t q1),(.t q3)]
  .fin))
 .ret) .skip)
 (.seq (.regc (.pb .eql (.t q6) (.k (.int .i64 0))
  .fin) (.l x0) (.seq (.reg (.pca q136 [(.t q2),(.t q),(.t q1),(.t q3)]
  .fin))
 .ret) .skip)
 (.seq (.regc (.gen ⟨.push,.un .not (.t q7),none⟩
  .fin) (.l x0) (.seq (.reg (.pca q236 [(.t q2),(.t q),(.t q1),(.t q3)]
  .fin))
 (.reg (.pb .sub (.t q6) (.k (.int .i64 1))
  (.sm q6 (.l x0)
  .fin)))) .skip)
 (.seq (.reg (.pca q336 [(.t q2),(.t q),(.t q1),(.t q3)]
  (.pex (.l x0) 0
  (.pex (.l x1) 1
  (.sm q5 (.l x1)
  (.sm q00 (.l x0)
  .fin))))))
 (.seq (.regc (.pb .eql (.t q00) (.k (.int .i64 2))
  .fin) (.l x0) (.seq (.reg (.pca q436 [(.t q2),(.t q),(.t q1),(.t q3)]
  .fin))
 (.seq (.reg (.pb .sub (.t q1) (.k (.int .i64 1))
  (.pb .sub (.t q5) (.t q)
  (.pb .sub (.l x1) (.l x0)
  (.sm q5 (.l x0)
  .fin)))))
 (.reg (.sm q00 (.k (.int .i64 1))
  .fin)))) .skip)
 (.seq (.regc (.gen ⟨.push,.move (.t q50),some ((.t q7),true)⟩
  (.gen ⟨.push,.pick (.t q7) (.l x0) (.k (.bool false)),none⟩
  (.gen ⟨.push,.move (.t q00),some ((.l x0),true)⟩
  (.gen ⟨.push,.bin .eql (.l x0) (.k (.int .i64 1)),some ((.l x1),true)⟩
  (.gen ⟨.push,.pick (.l x2) (.l x0) (.k (.bool false)),none⟩
  .fin))))) (.l x0) (.regc (.pca q536 [(.t q2),(.t q),(.t q1),(.t q3)]
  .fin) (.l x0) .ret .skip) .skip)
 (.seq (.seq (.regd [(⟨(.slot q01),.move (.t q),none⟩,⟨0,0,0⟩),
  (⟨(.slot q11),.bin .gtr (.t q01) (.k (.int .i64 0)),none⟩,⟨0,0,0⟩),
  (⟨(.slot q0),.move (.t q11),none⟩,⟨0,0,0⟩),
  (⟨(.slot q21),.move (.t q3),some ((.t q0),true)⟩,⟨0,0,0⟩),
  (⟨(.slot q31),.move (.t q2),some ((.t q0),true)⟩,⟨0,0,0⟩),
  (⟨(.slot q41),.move (.t q),some ((.t q0),true)⟩,⟨0,0,0⟩),
  (⟨(.slot q51),.bin .sub (.t q41) (.k (.int .i64 1)),some ((.t q0),true)⟩,⟨0,0,0⟩),
  (⟨(.slot q61),.iaddr 2 (.t q31) (.t q51),some ((.t q0),true)⟩,⟨0,0,0⟩),
  (⟨(.slot q71),.load true 2 (.t q61),some ((.t q0),true)⟩,⟨1,0,0⟩),
  (⟨(.slot q02),.move (.t q2),some ((.t q0),true)⟩,⟨0,0,0⟩),
  (⟨(.slot q12),.move (.t q5),some ((.t q0),true)⟩,⟨0,0,0⟩),
  (⟨(.slot q22),.iaddr 2 (.t q02) (.t q12),some ((.t q0),true)⟩,⟨0,0,0⟩),
  (⟨(.slot q32),.load true 2 (.t q22),some ((.t q0),true)⟩,⟨1,0,0⟩),
  (⟨(.slot q42),.callv (.t q21) [(.t q71),(.t q32)],some ((.t q0),true)⟩,⟨3,0,1⟩),
  (⟨(.slot q52),.bin .lss (.t q42) (.k (.int .i64 0)),some ((.t q0),true)⟩,⟨0,1,1⟩),
  (⟨(.slot q62),.un .not (.t q52),some ((.t q0),true)⟩,⟨0,1,1⟩),
  (⟨(.slot q72),.pick (.t q0) (.t q62) (.k (.bool false)),none⟩,⟨0,1,1⟩)])
 (.cond (.t q72) (.seq (.reg (.pca q636 [(.t q2),(.t q),(.t q1),(.t q5),(.t q3)]
  (.sm q60 (.l x0)
  .fin)))
 (.seq (.reg (.sm q (.t q60)
  .fin))
 (.exit 1))) .skip))
 (.seq (.reg (.pca q736 [(.t q2),(.t q),(.t q1),(.t q5),(.t q3)]
  (.pex (.l x0) 0
  (.pex (.l x1) 1
  (.sm q4 (.l x1)
  (.sm q70 (.l x0)
  .fin))))))
 (.seq (.reg (.sm q50 (.t q70)
  .fin))
 (.seq (.reg (.pb .sub (.t q4) (.t q)
  (.pb .sub (.t q1) (.t q4)
  (.sm q20 (.l x1)
  (.sm q30 (.l x0)
  .fin)))))
 (.seq (.reg (.pb .quo (.t q10) (.k (.int .i64 8))
  (.sm q40 (.l x0)
  .fin)))
 (.regc (.pb .lss (.t q20) (.t q30)
  .fin) (.l x0) (.seq (.reg (.pb .geq (.t q20) (.t q40)
  (.sm q7 (.l x0)
  .fin)))
 (.seq (.reg (.pca q606 [(.t q2),(.t q),(.t q4),(.t q6),(.t q3)]
  .fin))
 (.reg (.pb .add (.t q4) (.k (.int .i64 1))
  (.sm q (.l x0)
  .fin))))) (.seq (.reg (.pb .geq (.t q30) (.t q40)
  (.sm q7 (.l x0)
  .fin)))
 (.seq (.reg (.pb .add (.t q4) (.k (.int .i64 1))
  (.pca q606 [(.t q2),(.l x0),(.t q1),(.t q6),(.t q3)]
  .fin)))
 (.reg (.sm q1 (.t q4)
  .fin)))))))))))))))))))))),[],[]⟩
def c391 : CFn := ⟨[some q],(.seq (.reg (.sm q0 (.k .snil)
  .fin))
 (.seq (.block 0 (.loop (.seq (.regc (.pln (.t q)
  (.pb .gtr (.l x0) (.k (.int .i64 0))
  (.gen ⟨.push,.move (.t q),some ((.l x0),true)⟩
  (.gen ⟨.push,.move (.t q),some ((.l x1),true)⟩
  (.gen ⟨.push,.len (.l x0),some ((.l x2),true)⟩
  (.gen ⟨.push,.bin .sub (.l x0) (.k (.int .i64 1)),some ((.l x3),true)⟩
  (.gen ⟨.push,.iaddr 1 (.l x3) (.l x0),some ((.l x4),true)⟩
  (.gen ⟨.push,.load false 1 (.l x0),some ((.l x5),true)⟩
  (.gen ⟨.push,.bin .eql (.l x0) (.k (.int .i64 0)),some ((.l x6),true)⟩
  (.gen ⟨.push,.pick (.l x7) (.l x0) (.k (.bool false)),none⟩
  .fin)))))))))) (.l x0) .skip (.exit 0))
 (.block 1 (.reg (.pln (.t q)
  (.pb .sub (.l x0) (.k (.int .i64 1))
  (.gen ⟨.push,.slc 1 (.t q) none (some (.l x0)),none⟩
  (.sm q (.l x0)
  .fin)))))))))
 (.seq (.reg (.sm q0 (.t q)
  .fin))
 .ret))),[(q0,none)],[]⟩
def c392 : CFn := ⟨[some q,some q1],(.seq (.reg (.sm q0 (.k (.int .i64 0))
  .fin))
 (.seq (.seq (.reg (.pb .rem (.t q) (.t q1)
  (.sm q (.l x0)
  .fin)))
 (.regc (.pb .lss (.t q) (.k (.int .i64 0))
  .fin) (.l x0) (.reg (.pb .add (.t q) (.t q1)
  (.sm q (.l x0)
  .fin))) .skip))
 (.seq (.reg (.sm q0 (.t q)
  .fin))
 .ret))),[(q0,none)],[]⟩
def c393 : CFn := ⟨[some q0],(.seq (.reg (.sm q (.k .snil)
  .fin))
 (.seq (.regc (.gen ⟨.push,.cmp 2 .eql (.t q0) (.k .snil),none⟩
  .fin) (.l x0) (.seq (.reg (.sm q (.k .snil)
  .fin))
 .ret) .skip)
 (.seq (.reg (.gen ⟨.push,.bsl 1 0 [(.int .i64 0)] [],none⟩
  (.gen ⟨.push,.append 1 8 (.l x0) (.t q0),none⟩
  (.sm q (.l x0)
  .fin))))
 .ret))),[(q,none)],[]⟩
def c394 : CFn := ⟨[some q0,some q1],(.seq (.reg (.sm q (.k (.int .i64 0))
  .fin))
 (.seq (.regc (.pln (.t q0)
  (.pb .lss (.t q1) (.l x0)
  .fin)) (.l x0) (.seq (.reg (.pia 1 (.t q0) (.t q1)
  (.pld false 1 (.l x0)
  (.sm q (.l x0)
  .fin))))
 .ret) .skip)
 (.seq (.reg (.sm q (.k (.int .i64 0))
  .fin))
 .ret))),[(q,none)],[]⟩
end Go.Ex.K
