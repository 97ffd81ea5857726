/- The compiled code of functions of the program is what the compiler makes of them, by elaboration. Conditions: none. -/
import Derived.Test.YtohlgneeifkikaaGreatDoorMAC
set_option maxRecDepth 1000000
set_option maxHeartbeats 0
set_option linter.unusedVariables false
noncomputable section
section
namespace Go.Ex.KD
open Go Go.Proofs
def d196:=cd Tryz.func196 [1,2,5,6,7,8,9,10,11,0] []
def d197:=cd Tryz.func197 [7,8,1,2,4,5,6,0] []
def d198:=cd Tryz.func198 [5,4,1,0] []
def d199:=cd Tryz.func199 [3,0,2] []
def d200:=cd Tryz.func200 [2,0] []
def d201:=cd Tryz.func201 [1,0,7,8,9,10,4] []
def d202:=cd Tryz.func202 [7,0,1,8,2,6] []
def d203:=cd Tryz.func203 [67,0,13,71,72,73,74,75,76,77,78,79,80,81,82,83,84,85,10,11,65,8,66,6,38,9,5,7,41,42,43,44,45,46,37,2,3,4] [18]
def d204:=cd Tryz.func204 [1,0,7,8,9,10,4] []
def d205:=cd Tryz.func205 [1,4,0] []
def d206:=cd Tryz.func206 [0,6,7,8,9,10,11,12,13,14,15,16,17,18,19,20,21,22,23,24,1,2] []
def d207:=cd Tryz.func207 [8,9,16,0,22,23,24,25,26,27,28,33,34,35,36,37,38,39,40,7,4,5,15,6,1,2] []
def d208:=cd Tryz.func208 [6,7,2,3,1,24,25,26,27,28,29,0] []
def d209:=cd Tryz.func209 [1,2,0] []
def c210:CFn:=⟨[some 72],(.seq (.aa (.gen ⟨(.slot 5),.box (.t 72),none⟩ (.sm 67 (.k .pnil) (.sm 68 (.k (.int .i64 0)) .fin)))) (.seq (.seq (.aa (.pld true 3 (.t 5) (.pca 36 [(.l .z)] (.sm 69 (.l .z) .fin)))) (.aq (.pb .neq (.t 69) (.k (.int .i64 0)) .fin) (.l .z) (.seq (.aa (.gen ⟨.push,.move (.t 69),none⟩ (.sm 67 (.k .pnil) (.sm 68 (.l .z) .fin)))) .ret) .skip)) (.seq (.aa (.pld true 3 (.t 5) (.gen ⟨.push,.build [(.int .i64 0),(.int .i64 0),(.int .i64 0),.snil,.snil,.snil,.snil,.snil] [(0,3,(.l .z))],none⟩ (.gen ⟨.push,.box (.l .z),none⟩ (.gen ⟨(.slot 0),.box (.k .pnil),none⟩ (.st 1 (.t 0) (.l .z) .fin)))))) (.seq (.seq (.aa (.sm 1 (.k (.int .i64 1)) .fin)) (.block 0 (.loop (.seq (.aq (.pfa 0 (.t 5) (.pld false 1 (.l .z) (.pb .leq (.t 1) (.l .z) .fin))) (.l .z) .skip (.exit 0)) (.seq (.block 1 (.aq (.pfa 0 (.t 5) (.pld false 1 (.l .z) (.pca 204 [(.t 1),(.l .z)] (.pb .eql (.l .z) (.k (.int .i64 1)) .fin)))) (.l .z) (.seq (.aC [(⟨(.slot 7),.load false 1 (.t 0),none⟩,⟨1,0,1⟩),(⟨(.slot 8),.load false 1 (.t 0),none⟩,⟨1,0,0⟩),(⟨(.slot 9),.nilc (.t 8),none⟩,⟨0,0,0⟩),(⟨(.slot 10),.faddr 6 (.t 9),none⟩,⟨0,0,0⟩),(⟨(.slot 11),.load false 1 (.t 10),none⟩,⟨1,0,0⟩),(⟨(.slot 12),.move (.t 1),none⟩,⟨0,0,0⟩),(⟨(.slot 13),.bsl 1 1 [(.int .i64 0)] [(0,(.t 12))],none⟩,⟨2,0,0⟩),(⟨(.slot 14),.append 1 8 (.t 11) (.t 13),none⟩,⟨3,0,1⟩),(⟨(.slot 15),.nilc (.t 7),none⟩,⟨0,1,1⟩),(⟨(.slot 16),.faddr 6 (.t 15),none⟩,⟨0,1,1⟩),(⟨.drop,.store 1 (.t 16) (.t 14),none⟩,⟨3,1,2⟩)]) (.aC [(⟨(.slot 17),.load false 1 (.t 0),none⟩,⟨1,0,2⟩),(⟨(.slot 18),.load false 1 (.t 0),none⟩,⟨1,0,1⟩),(⟨(.slot 19),.nilc (.t 18),none⟩,⟨0,0,1⟩),(⟨(.slot 20),.faddr 7 (.t 19),none⟩,⟨0,0,1⟩),(⟨(.slot 21),.load false 1 (.t 20),none⟩,⟨1,0,1⟩),(⟨(.slot 22),.faddr 2 (.t 5),none⟩,⟨0,0,0⟩),(⟨(.slot 23),.load false 1 (.t 22),none⟩,⟨1,0,0⟩),(⟨(.slot 24),.move (.t 1),none⟩,⟨0,0,0⟩),(⟨(.slot 25),.call 104 [(.t 23),(.t 24)],none⟩,⟨3,0,1⟩),(⟨(.slot 26),.bsl 1 1 [(.int .i64 0)] [(0,(.t 25))],none⟩,⟨2,1,1⟩),(⟨(.slot 27),.append 1 8 (.t 21) (.t 26),none⟩,⟨3,1,2⟩),(⟨(.slot 28),.nilc (.t 17),none⟩,⟨0,2,2⟩),(⟨(.slot 29),.faddr 7 (.t 28),none⟩,⟨0,2,2⟩),(⟨.drop,.store 1 (.t 29) (.t 27),none⟩,⟨3,2,3⟩)])) .skip)) (.aa (.pb .add (.t 1) (.k (.int .i64 1)) (.sm 1 (.l .z) .fin)))))))) (.seq (.aa (.pfa 0 (.t 5) (.pld false 1 (.l .z) (.pca 267 [(.l .z)] (.pex (.l .z) 0 (.pex (.l (.s .z)) 1 (.sm 70 (.l (.s .z)) (.sm 71 (.l .z) .fin)))))))) (.seq (.aq (.pb .neq (.t 71) (.k (.int .i64 0)) .fin) (.l .z) (.seq (.aa (.gen ⟨.push,.move (.t 71),none⟩ (.sm 67 (.k .pnil) (.sm 68 (.l .z) .fin)))) .ret) .skip) (.seq (.aa (.pld false 1 (.t 0) (.gen ⟨.push,.nilc (.l .z),none⟩ (.pfa 3 (.l .z) (.st 1 (.l .z) (.t 70) .fin))))) (.seq (.seq (.aa (.sm 65 (.t 70) (.gen ⟨(.slot 66),.len (.t 65),none⟩ (.sm 3 (.k (.int .i64 0)) .fin)))) (.block 2 (.loop (.seq (.aq (.pb .lss (.t 3) (.t 66) .fin) (.l .z) .skip (.exit 2)) (.seq (.block 3 (.seq (.aa (.pia 2 (.t 65) (.t 3) (.pld true 2 (.l .z) (.gen ⟨(.slot 4),.box (.k (.agg [(.int .i64 0),(.int .i64 0)])),none⟩ (.st 2 (.t 4) (.l .z) .fin))))) (.seq (.aa (.gen ⟨(.slot 2),.box (.k (.bool false)),none⟩ (.st 1 (.t 2) (.k (.bool false)) .fin))) (.seq (.seq (.aa (.gen ⟨(.slot 30),.mkfn 268 [(.t 0),(.t 4)],none⟩ .fin)) (.block 4 (.rangeF (.t 30) [31] (.aa (.sm 6 (.t 31) .fin)) (.block 5 (.aa (.pld false 1 (.t 2) (.gen ⟨.push,.move (.t 6),some ((.l .z),false)⟩ (.gen ⟨.push,.bin .lss (.l .z) (.k (.int .i64 0)),some ((.l (.s .z)),false)⟩ (.gen ⟨.push,.pick (.l (.s (.s .z))) (.k (.bool true)) (.l .z),none⟩ (.st 1 (.t 2) (.l .z) .fin)))))))))) (.seq (.aq (.pld false 1 (.t 2) .fin) (.l .z) (.seq (.aC [(⟨(.slot 32),.load false 1 (.t 0),none⟩,⟨1,0,1⟩),(⟨(.slot 33),.load false 1 (.t 0),none⟩,⟨1,0,0⟩),(⟨(.slot 34),.nilc (.t 33),none⟩,⟨0,0,0⟩),(⟨(.slot 35),.faddr 4 (.t 34),none⟩,⟨0,0,0⟩),(⟨(.slot 36),.load false 1 (.t 35),none⟩,⟨1,0,0⟩),(⟨(.slot 37),.bsl 1 1 [(.int .i64 0)] [(0,(.k (.int .i64 (-1))))],none⟩,⟨2,0,0⟩),(⟨(.slot 38),.append 1 8 (.t 36) (.t 37),none⟩,⟨3,0,1⟩),(⟨(.slot 39),.nilc (.t 32),none⟩,⟨0,1,1⟩),(⟨(.slot 40),.faddr 4 (.t 39),none⟩,⟨0,1,1⟩),(⟨.drop,.store 1 (.t 40) (.t 38),none⟩,⟨3,1,2⟩)]) (.exit 3)) .skip) (.seq (.aC [(⟨(.slot 41),.load false 1 (.t 0),none⟩,⟨1,0,1⟩),(⟨(.slot 42),.load false 1 (.t 0),none⟩,⟨1,0,0⟩),(⟨(.slot 43),.nilc (.t 42),none⟩,⟨0,0,0⟩),(⟨(.slot 44),.faddr 4 (.t 43),none⟩,⟨0,0,0⟩),(⟨(.slot 45),.load false 1 (.t 44),none⟩,⟨1,0,0⟩),(⟨(.slot 46),.load false 1 (.t 0),none⟩,⟨1,0,0⟩),(⟨(.slot 47),.nilc (.t 46),none⟩,⟨0,0,0⟩),(⟨(.slot 48),.faddr 5 (.t 47),none⟩,⟨0,0,0⟩),(⟨(.slot 49),.load false 1 (.t 48),none⟩,⟨1,0,0⟩),(⟨(.slot 50),.len (.t 49),none⟩,⟨0,0,0⟩),(⟨(.slot 51),.bsl 1 1 [(.int .i64 0)] [(0,(.t 50))],none⟩,⟨2,0,0⟩),(⟨(.slot 52),.append 1 8 (.t 45) (.t 51),none⟩,⟨3,0,1⟩),(⟨(.slot 53),.nilc (.t 41),none⟩,⟨0,1,1⟩),(⟨(.slot 54),.faddr 4 (.t 53),none⟩,⟨0,1,1⟩),(⟨.drop,.store 1 (.t 54) (.t 52),none⟩,⟨3,1,2⟩)]) (.aC [(⟨(.slot 55),.load false 1 (.t 0),none⟩,⟨1,0,1⟩),(⟨(.slot 56),.load false 1 (.t 0),none⟩,⟨1,0,0⟩),(⟨(.slot 57),.nilc (.t 56),none⟩,⟨0,0,0⟩),(⟨(.slot 58),.faddr 5 (.t 57),none⟩,⟨0,0,0⟩),(⟨(.slot 59),.load false 1 (.t 58),none⟩,⟨1,0,0⟩),(⟨(.slot 60),.load true 2 (.t 4),none⟩,⟨1,0,0⟩),(⟨(.slot 61),.bsl 2 1 [(.int .i64 0),(.int .i64 0)] [(0,(.t 60))],none⟩,⟨2,0,0⟩),(⟨(.slot 62),.append 2 16 (.t 59) (.t 61),none⟩,⟨3,0,1⟩),(⟨(.slot 63),.nilc (.t 55),none⟩,⟨0,1,1⟩),(⟨(.slot 64),.faddr 5 (.t 63),none⟩,⟨0,1,1⟩),(⟨.drop,.store 1 (.t 64) (.t 62),none⟩,⟨3,1,2⟩)]))))))) (.aa (.pb .add (.t 3) (.k (.int .i64 1)) (.sm 3 (.l .z) .fin)))))))) (.seq (.aa (.pld false 1 (.t 0) (.sm 67 (.l .z) (.sm 68 (.k (.int .i64 0)) .fin)))) .ret))))))))),[(67,none),(68,none)],[]⟩
def d210:Fd 210:=⟨c210,_,_,_,Tryz.func210,(by kernel_rfl:cFn Tryz.prog (slF 0 [5,6,11,70,10,1,12,32,33,34,35,36,37,38,39,40,41,42,43,44,45,46,47,48,49,50,51,52,53,54,74,75,82,83,84,85,86,87,88,89,90,91,92,93,94,95,96,97,98,99,100,101,102,103,104,105,106,107,108,109,110,111,112,113,114,68,69,2,3,4,7,8,0]) [17,63] Tryz.f210=some c210)⟩
def d211:=cd Tryz.func211 [4,5,6,1,8,7,2,27,28,29,30,31,32,33,34,35,36,37,38,39,40,41,42,43,44,45,46,47,48,49,50,51,0] []
def d212:=cd Tryz.func212 [6,7,8,9,0,1,2] [19]
def d213:=cd Tryz.func213 [8,6,0,4,5,7,9,42,43,44,45,46,47,48,49,50,51,52,53,1] []
def d214:=cd Tryz.func214 [8,9,1,6,18,19,20,21,22,23,24,25,26,27,28,29,0,2,3] []
def d215:=cd Tryz.func215 [59,12,11,8,58,4,5,6,7,10,0,9,67,68,69,70,71,1] []
def d216:=cd Tryz.func216 [3,2,4,5,7,6,8,42,43,44,45,46,47,48,49,50,51,52,53,54,55,56,57,58,0,1] []
def d217:=cd Tryz.func217 [4,5,3,0,6,7,9,8,12,13,14,15,16,17,18,19,1] [25,31,42]
def d218:=cd Tryz.func218 [11,5,4,3,9,10,2,0] [13]
def d219:=cd Tryz.func219 [0,11,8,10,93,9,109,110,111,112,113,114,115,116,117,118,119,120,121,122,123,124,125,92,6,7,53,54,55,56,57,58,59,60,61,62,63,64,65,66,69,70,71,72,73,74,75,76,77,78,79,80,81,82,83,84,85,86,87,88,89,1,4,5,132,133] []
def d220:=cd Tryz.func220 [4,5,7,0,6,1] []
def d221:=cd Tryz.func221 [29,32,9,10,11,12,33,34,35,36,37,38,39,2,4,5,7,28,3,6,0,1] []
def d222:=cd Tryz.func222 [9,4,3,8,2,0] []
def d223:=cd Tryz.func223 [7,24,1,2,28,29,30,31,32,33,34,35,36,37,38,39,40,41,22,23,0,8,9,10,11,12,13,14,15,16,17,18,19,20,21] []
def d224:=cd Tryz.func224 [9,2,4,5,6,7,8,3,0,1] []
def d225:=cd Tryz.func225 [6,5,26,27,28,29,1,0,8,4] [39]
def d226:=cd Tryz.func226 [8,5,3,6,7,2,0] []
end Go.Ex.KD
section
namespace Go.Ex.KD
open Go Go.Proofs
def d227:=cd Tryz.func227 [87,5,50,66,9,10,11,12,7,4,1,53,54,55,56,57,58,59,60,61,62,69,70,71,72,73,74,75,76,77,78,92,93,94,95,96,97,98,99,100,101,102,103,104,105,106,8,85,49,65,86,6,0] [25,89]
def d228:=cd Tryz.func228 [4,3,0,1] []
def d229:=cd Tryz.func229 [3,4,2,5,6,7,8,9,10,11,12,0,1] []
def d230:=cd Tryz.func230 [3,2,1,0] []
def d231:=cd Tryz.func231 [7,5,8,4,6,9,0,2,3] [37,39]
def d232:=cd Tryz.func232 [14,5,3,18,19,20,21,22,12,13,2,6,9,0,38,39,40,41,42] []
def d233:=cd Tryz.func233 [4,5,2,3,6,7,8,9,10,18,19,20,21,22,23,24,25,26,0,1] []
def d234:=cd Tryz.func234 [9,21,0,8,12,2,3,11,13,22,23,24,25,26,27,28,29,30,31,32,33,34,35,36,37,38,39,40,41,1] []
def c235:CFn:=⟨[some 23,some 24,some 35,some 2,some 25,some 29,some 30,some 1,some 26],(.seq (.aa (.sm 22 (.k (.bool false)) .fin)) (.seq (.aq (.pb .eql (.t 2) (.k (.int .i64 0)) .fin) (.l .z) (.seq (.aa (.pld true 2 (.t 25) (.pca 236 [(.t 23),(.l .z)] (.pca 155 [(.l .z)] (.sm 27 (.l .z) .fin))))) (.seq (.aa (.pld false 1 (.t 29) (.pca 160 [(.l .z),(.t 27)] (.pex (.l .z) 0 (.pex (.l (.s .z)) 1 (.sm 31 (.l (.s .z)) (.sm 32 (.l .z) .fin))))))) (.seq (.aq (.pb .neq (.t 32) (.k (.int .i64 0)) .fin) (.l .z) (.seq (.aa (.sm 22 (.k (.bool false)) .fin)) .ret) .skip) (.seq (.aa (.pld false 1 (.t 30) (.gen ⟨.push,.bsl 1 1 [.snil] [(0,(.t 27))],none⟩ (.gen ⟨.push,.append 1 24 (.l (.s .z)) (.l .z),none⟩ (.st 1 (.t 30) (.l .z) (.st 1 (.t 29) (.t 31) .fin)))))) (.seq (.seq (.aa (.gen ⟨(.slot 33),.call 237 [(.t 24)],none⟩ .fin)) (.block 0 (.rangeF (.t 33) [36,34] (.aa (.sm 28 (.t 34) .fin)) (.block 1 (.aa (.pld false 1 (.t 1) (.pb .add (.t 28) (.k (.int .i64 1)) (.pca 238 [(.l (.s .z)),(.t 28),(.l .z)] (.st 1 (.t 1) (.l .z) .fin))))))))) (.seq (.aa (.sm 22 (.k (.bool true)) .fin)) .ret)))))) .skip) (.seq (.seq (.aa (.sm 0 (.t 35) .fin)) (.block 2 (.loop (.seq (.aq (.pb .add (.t 0) (.t 2) (.pld false 1 (.t 1) (.pln (.l .z) (.pb .leq (.l (.s (.s .z))) (.l .z) .fin)))) (.l .z) .skip (.exit 2)) (.seq (.block 3 (.seq (.aC [(⟨(.slot 3),.load false 1 (.t 26),none⟩,⟨1,0,4⟩),(⟨(.slot 4),.move (.t 23),none⟩,⟨0,0,0⟩),(⟨(.slot 5),.load false 1 (.t 1),none⟩,⟨1,0,0⟩),(⟨(.slot 6),.move (.t 0),none⟩,⟨0,0,0⟩),(⟨(.slot 7),.iaddr 1 (.t 5) (.t 6),none⟩,⟨0,0,0⟩),(⟨(.slot 8),.load false 1 (.t 7),none⟩,⟨1,0,0⟩),(⟨(.slot 9),.call 240 [(.t 4),(.t 8)],none⟩,⟨3,0,1⟩),(⟨(.slot 10),.load true 2 (.t 25),none⟩,⟨1,0,1⟩),(⟨(.slot 11),.call 239 [(.t 9),(.t 10)],none⟩,⟨3,1,2⟩),(⟨(.slot 12),.move (.t 24),none⟩,⟨0,0,2⟩),(⟨(.slot 13),.call 241 [(.t 12)],none⟩,⟨3,2,3⟩),(⟨(.slot 14),.move (.t 0),none⟩,⟨0,0,3⟩),(⟨(.slot 15),.bsl 1 1 [(.int .i64 0)] [(0,(.t 14))],none⟩,⟨2,0,3⟩),(⟨(.slot 16),.append 1 8 (.t 13) (.t 15),none⟩,⟨3,3,4⟩),(⟨(.slot 17),.move (.t 0),none⟩,⟨0,0,4⟩),(⟨(.slot 18),.bin .add (.t 17) (.k (.int .i64 1)),none⟩,⟨0,0,4⟩),(⟨(.slot 19),.move (.t 2),none⟩,⟨0,0,4⟩),(⟨(.slot 20),.bin .sub (.t 19) (.k (.int .i64 1)),none⟩,⟨0,0,4⟩),(⟨(.slot 21),.callv (.t 3) [(.t 11),(.t 16),(.t 18),(.t 20)],none⟩,⟨3,4,5⟩)]) (.cond (.t 21) (.seq (.aa (.sm 22 (.k (.bool true)) .fin)) .ret) .skip))) (.aa (.pb .add (.t 0) (.k (.int .i64 1)) (.sm 0 (.l .z) .fin)))))))) (.seq (.aa (.sm 22 (.k (.bool false)) .fin)) .ret)))),[(22,none)],[]⟩
def d235:Fd 235:=⟨c235,_,_,_,Tryz.func235,(by kernel_rfl:cFn Tryz.prog (slF 0 [19,7,3,57,58,59,60,61,62,63,64,65,66,67,68,69,70,71,72,73,74,75,13,0,1,4,8,14,18,5,6,15,16,40,42,2,41]) [] Tryz.f235=some c235)⟩
def d236:=cd Tryz.func236 [12,6,3,5,17,18,19,20,21,22,0,10,11,4,1] [14]
def d237:=cd Tryz.func237 [2,1,0] []
def d238:=cd Tryz.func238 [0,6,1,2,7,20,21,22,23,24,25,26] []
def d239:=cd Tryz.func239 [13,7,9,5,11,3,12,4,0,1] []
def d240:=cd Tryz.func240 [34,8,9,6,5,39,40,41,42,43,44,45,46,47,48,49,50,51,52,53,7,32,33,27,1,25,26,4,0] [29,36]
def d241:=cd Tryz.func241 [2,0] []
def d242:=cd Tryz.func242 [1,83,2,0,4,16,13,3,10,14,12,18,19,20,11,15,17,81,82,84,85,86,87,88,89,90,91,92,93,94,95,96,97] []
def d243:=cd Tryz.func243 [4,0,1,6,5] []
def d244:=cd Tryz.func244 [10,4,13,14,15,16,17,18,19,3,9,2,0] []
def d245:=cd Tryz.func245 [12,6,15,16,17,18,19,20,21,22,23,24,25,26,27,28,0,5,11,1,4] []
def d246:=cd Tryz.func246 [2,1,0] []
def d247:=cd Tryz.func247 [8,1,0,21,22,23,24,25,26,27,28,29,30,31,32,33,34,6,2,3] []
def d248:=cd Tryz.func248 [2,6,1,4,5,0] []
def d249:=cd Tryz.func249 [4,0,1] []
def d250:=cd Tryz.func250 [6,0,1,2] []
def d251:=cd Tryz.func251 [15,1,131,13,9,0,143,144,145,146,147,148,149,150,151,152,153,154,155,156,157,158,159,160,161,162,163,164,165,166,167,14,130,10,86,108,12,8,89,90,91,92,93,94,95,96,97,98,99,100,101,102,103,104,11,85,107,7,53,54,55,56,57,58,59,60,61,62,63,64,65,66,6,2] []
def d252:=cd Tryz.func252 [19,7,0,16,17,18,20,21,22,23,24,25,26,27,28,29,30,33,34,35,36,37,38,39,40,41,42,43,44,45,46,47,48,1,6,2] []
def d258:=cd Tryz.func258 [4,0,1] []
def d261:=cd Tryz.func261 [0,2] []
def d262:=cd Tryz.func262 [0,2] []
def d263:=cd Tryz.func263 [2,0] []
def d264:=cd Tryz.func264 [23,7,9,1,6,8,5,21,22,0,4] [16]
end Go.Ex.KD
section
namespace Go.Ex.KD
open Go Go.Proofs
def d265:=cd Tryz.func265 [5,4,0,1,24,25,26,27,28,29,30,31,32,33,34,35,36,37,38,39,40,41] []
def d266:=cd Tryz.func266 [15,7,9,6,1,8,5,13,14,4,0] []
def d267:=cd Tryz.func267 [12,9,10,11,7,25,0,23,24,2,3,4,5] [17]
def d268:=cd Tryz.func268 [2,0,1] []
def d269:=cd Tryz.func269 [53,33,9,14,11,8,13,0,6,5,12,38,39,40,41,42,43,44,45,46,47,48,49,50,51,52,54,55,56,57,58,59,60,61,62,63,64,65,66,67,68,69,70,71,31,32,3,25,24,1,2] []
def d270:=cd Tryz.func270 [6,7,0,1,2,8] []
def d271:=cd Tryz.func271 [4,3,5,7,0,1] []
def d272:=cd Tryz.func272 [4,5,1,6,7,0] []
def d273:=cd Tryz.func273 [4,5,1,6,7,0] []
def d274:=cd Tryz.func274 [8,14,7,0,6,4,5,42,43,44,45,46,47,48,49,12,3,13,1] [16]
def d275:=cd Tryz.func275 [4,5,2,3,9,7,8,6,0,1] []
def d276:=cd Tryz.func276 [10,11,64,3,12,6,67,68,69,70,71,72,73,74,75,76,77,78,8,63,5,31,21,9,7,29,20,30,4,0,1] [33]
def d277:=cd Tryz.func277 [1,2,0] []
def c278:CFn:=⟨[some 26,some 27],(.seq (.aa (.gen ⟨(.slot 24),.box (.t 26),none⟩ (.gen ⟨(.slot 25),.box (.t 27),none⟩ (.sm 22 (.k .snil) (.sm 23 (.k (.int .i64 0)) .fin))))) (.seq (.aa (.pld true 2 (.t 24) (.pca 330 [(.l .z)] (.pex (.l .z) 0 (.pex (.l (.s .z)) 1 (.sm 2 (.l (.s .z)) (.sm 21 (.l .z) .fin))))))) (.seq (.aq (.pb .neq (.t 21) (.k (.int .i64 0)) .fin) (.l .z) (.seq (.aa (.gen ⟨.push,.move (.t 21),none⟩ (.sm 22 (.k .snil) (.sm 23 (.l .z) .fin)))) .ret) .skip) (.seq (.aa (.pld true 2 (.t 25) (.pca 330 [(.l .z)] (.pex (.l .z) 0 (.pex (.l (.s .z)) 1 (.sm 3 (.l (.s .z)) (.sm 21 (.l .z) .fin))))))) (.seq (.aq (.pb .neq (.t 21) (.k (.int .i64 0)) .fin) (.l .z) (.seq (.aa (.gen ⟨.push,.move (.t 21),none⟩ (.sm 22 (.k .snil) (.sm 23 (.l .z) .fin)))) .ret) .skip) (.seq (.aa (.sm 1 (.k (.int .i64 0)) .fin)) (.seq (.block 0 (.loop (.seq (.seq (.aC [(⟨(.slot 4),.move (.t 1),none⟩,⟨0,0,0⟩),(⟨(.slot 5),.move (.t 2),none⟩,⟨0,0,0⟩),(⟨(.slot 6),.len (.t 5),none⟩,⟨0,0,0⟩),(⟨(.slot 7),.move (.t 3),none⟩,⟨0,0,0⟩),(⟨(.slot 8),.len (.t 7),none⟩,⟨0,0,0⟩),(⟨(.slot 9),.min [(.t 6),(.t 8)],none⟩,⟨0,0,0⟩),(⟨(.slot 10),.bin .lss (.t 4) (.t 9),none⟩,⟨0,0,0⟩),(⟨(.slot 0),.move (.t 10),none⟩,⟨0,0,0⟩),(⟨(.slot 11),.move (.t 2),some ((.t 0),true)⟩,⟨0,0,0⟩),(⟨(.slot 12),.move (.t 1),some ((.t 0),true)⟩,⟨0,0,0⟩),(⟨(.slot 13),.iaddr 2 (.t 11) (.t 12),some ((.t 0),true)⟩,⟨0,0,0⟩),(⟨(.slot 14),.load true 2 (.t 13),some ((.t 0),true)⟩,⟨1,0,0⟩),(⟨(.slot 15),.move (.t 3),some ((.t 0),true)⟩,⟨0,0,0⟩),(⟨(.slot 16),.move (.t 1),some ((.t 0),true)⟩,⟨0,0,0⟩),(⟨(.slot 17),.iaddr 2 (.t 15) (.t 16),some ((.t 0),true)⟩,⟨0,0,0⟩),(⟨(.slot 18),.load true 2 (.t 17),some ((.t 0),true)⟩,⟨1,0,0⟩),(⟨(.slot 19),.eqs false [0,1] (.t 14) (.t 18),some ((.t 0),true)⟩,⟨0,0,0⟩),(⟨(.slot 20),.pick (.t 0) (.t 19) (.k (.bool false)),none⟩,⟨0,0,0⟩)]) (.cond (.t 20) .skip (.exit 0))) (.block 1 (.aa (.pb .add (.t 1) (.k (.int .i64 1)) (.sm 1 (.l .z) .fin))))))) (.seq (.aa (.pb .sub (.t 1) (.k (.int .i64 1)) (.gen ⟨.push,.slc 2 (.t 2) (some (.l .z)) none,none⟩ (.sm 2 (.l .z) .fin)))) (.seq (.aa (.pca 331 [(.t 2)] .fin)) (.seq (.aa (.gen ⟨.push,.slc 2 (.t 3) (some (.t 1)) none,none⟩ (.gen ⟨.push,.append 2 16 (.t 2) (.l .z),none⟩ (.sm 22 (.l .z) (.sm 23 (.k (.int .i64 0)) .fin))))) .ret)))))))))),[(22,none),(23,none)],[]⟩
def d278:Fd 278:=⟨c278,_,_,_,Tryz.func278,(by kernel_rfl:cFn Tryz.prog (slF 0 [33,9,6,8,26,27,28,29,30,31,32,34,35,36,37,38,39,40,41,42,43,7,4,5,2,3,0,1]) [17,25] Tryz.f278=some c278)⟩
def d279:=cd Tryz.func279 [100,20,9,103,104,105,106,107,108,109,110,111,112,113,114,115,116,15,19,99,18,62,12,6,7,14,16,17,94,95,96,97,60,61,0,8,11,28,2,43,10,13,44,45,46,47,48,49,50,51,52,53,54,55,27,1] [64,84,93]
def d280:=cd Tryz.func280 [6,0,19,20,21,22,23,24,25,26,27,28,30,4,1,2] []
def d281:=cd Tryz.func281 [8,5,7,0,4,6,2,3] []
def d282:=cd Tryz.func282 [76,18,17,11,84,85,86,87,88,89,90,91,92,74,75,99,48,58,14,16,21,62,12,15,20,63,64,65,66,67,68,69,19,56,97,0,4,5,10,47,57,98,40,23,8,6,22,38,39,1,7] [78,101]
def d283:=cd Tryz.func283 [4,2,3,5,0,1] []
def d284:=cd Tryz.func284 [49,12,13,2,66,67,68,69,70,71,72,73,74,75,76,5,10,11,8,48,29,16,7,4,9,14,27,15,28,0,1] [81]
def d285:=cd Tryz.func285 [2,4,1,0] []
def d286:=cd Tryz.func286 [2,0] []
def d287:=cd Tryz.func287 [14,4,11,13,12,1,0,5,10,6,7,8,9,28,29,30,31,32,33,34,35,93,94,95,96,97,98,99,100] []
def d288:=cd Tryz.func288 [2,0,4,13,14,15,16,17,18,19,20,21,22] []
def d289:=cd Tryz.func289 [8,19,9,10,0,1,7,18,2,6] []
def d290:=cd Tryz.func290 [5,3,0,1,2] []
def d291:=cd Tryz.func291 [2,0,3] []
def d292:=cd Tryz.func292 [30,12,10,4,5,28,29,6,0,1,8] []
def d293:=cd Tryz.func293 [5,11,35,8,12,36,37,38,39,40,41,42,43,1,7,2,3,4,18,19,20,21,22,23,24,25,26,49,50,51,52,53,54,55,0] []
def d294:=cd Tryz.func294 [2,0] []
def d295:=cd Tryz.func295 [8,5,9,7,10,11,41,42,43,44,45,46,47,48,6,2,3,4,13,68,18,19,20,21,22,23,24,25,26,27,51,52,53,54,69,70,71,72,73,74,75,76,78,79,80,0,1] []
end Go.Ex.KD
