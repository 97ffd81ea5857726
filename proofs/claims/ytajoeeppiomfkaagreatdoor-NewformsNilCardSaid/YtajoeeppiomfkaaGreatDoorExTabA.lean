/- The functions of the program, compiled into the executor's language, a part of them. Conditions: none. -/
import Derived.Test.YtajoeeppiomfkaaGreatDoorExCore
set_option maxRecDepth 100000
set_option linter.unusedVariables false
namespace Go.Ex.K
def q : Pth := .e
def q0 : Pth := (.s .d0 .e)
def q1 : Pth := (.s .d1 .e)
def q2 : Pth := (.s .d2 .e)
def q3 : Pth := (.s .d3 .e)
def q4 : Pth := (.s .d4 .e)
def q5 : Pth := (.s .d5 .e)
def q6 : Pth := (.s .d6 .e)
def q7 : Pth := (.s .d7 .e)
def q00 : Pth := (.s .d0 (.s .d0 .e))
def q10 : Pth := (.s .d1 (.s .d0 .e))
def q20 : Pth := (.s .d2 (.s .d0 .e))
def q30 : Pth := (.s .d3 (.s .d0 .e))
def q40 : Pth := (.s .d4 (.s .d0 .e))
def q50 : Pth := (.s .d5 (.s .d0 .e))
def q60 : Pth := (.s .d6 (.s .d0 .e))
def q70 : Pth := (.s .d7 (.s .d0 .e))
def q01 : Pth := (.s .d0 (.s .d1 .e))
def q11 : Pth := (.s .d1 (.s .d1 .e))
def q21 : Pth := (.s .d2 (.s .d1 .e))
def q31 : Pth := (.s .d3 (.s .d1 .e))
def q41 : Pth := (.s .d4 (.s .d1 .e))
def q51 : Pth := (.s .d5 (.s .d1 .e))
def q61 : Pth := (.s .d6 (.s .d1 .e))
def q71 : Pth := (.s .d7 (.s .d1 .e))
def q02 : Pth := (.s .d0 (.s .d2 .e))
def q12 : Pth := (.s .d1 (.s .d2 .e))
def q22 : Pth := (.s .d2 (.s .d2 .e))
def q32 : Pth := (.s .d3 (.s .d2 .e))
def q42 : Pth := (.s .d4 (.s .d2 .e))
def q52 : Pth := (.s .d5 (.s .d2 .e))
def q62 : Pth := (.s .d6 (.s .d2 .e))
def q72 : Pth := (.s .d7 (.s .d2 .e))
def q03 : Pth := (.s .d0 (.s .d3 .e))
def q13 : Pth := (.s .d1 (.s .d3 .e))
def q23 : Pth := (.s .d2 (.s .d3 .e))
def q33 : Pth := (.s .d3 (.s .d3 .e))
def q43 : Pth := (.s .d4 (.s .d3 .e))
def q53 : Pth := (.s .d5 (.s .d3 .e))
def q63 : Pth := (.s .d6 (.s .d3 .e))
def q73 : Pth := (.s .d7 (.s .d3 .e))
def q04 : Pth := (.s .d0 (.s .d4 .e))
def q14 : Pth := (.s .d1 (.s .d4 .e))
def q24 : Pth := (.s .d2 (.s .d4 .e))
def q34 : Pth := (.s .d3 (.s .d4 .e))
def q44 : Pth := (.s .d4 (.s .d4 .e))
def q54 : Pth := (.s .d5 (.s .d4 .e))
def q64 : Pth := (.s .d6 (.s .d4 .e))
def q74 : Pth := (.s .d7 (.s .d4 .e))
def q05 : Pth := (.s .d0 (.s .d5 .e))
def q15 : Pth := (.s .d1 (.s .d5 .e))
def q25 : Pth := (.s .d2 (.s .d5 .e))
def q35 : Pth := (.s .d3 (.s .d5 .e))
def q45 : Pth := (.s .d4 (.s .d5 .e))
def q55 : Pth := (.s .d5 (.s .d5 .e))
def q65 : Pth := (.s .d6 (.s .d5 .e))
def q75 : Pth := (.s .d7 (.s .d5 .e))
def q06 : Pth := (.s .d0 (.s .d6 .e))
def q16 : Pth := (.s .d1 (.s .d6 .e))
def q26 : Pth := (.s .d2 (.s .d6 .e))
def q36 : Pth := (.s .d3 (.s .d6 .e))
def q46 : Pth := (.s .d4 (.s .d6 .e))
def q56 : Pth := (.s .d5 (.s .d6 .e))
def q66 : Pth := (.s .d6 (.s .d6 .e))
def q76 : Pth := (.s .d7 (.s .d6 .e))
def q07 : Pth := (.s .d0 (.s .d7 .e))
def q17 : Pth := (.s .d1 (.s .d7 .e))
def q27 : Pth := (.s .d2 (.s .d7 .e))
def q37 : Pth := (.s .d3 (.s .d7 .e))
def q47 : Pth := (.s .d4 (.s .d7 .e))
def q57 : Pth := (.s .d5 (.s .d7 .e))
def q67 : Pth := (.s .d6 (.s .d7 .e))
def q77 : Pth := (.s .d7 (.s .d7 .e))
def q000 : Pth := (.s .d0 (.s .d0 (.s .d0 .e)))
def q100 : Pth := (.s .d1 (.s .d0 (.s .d0 .e)))
def q200 : Pth := (.s .d2 (.s .d0 (.s .d0 .e)))
def q300 : Pth := (.s .d3 (.s .d0 (.s .d0 .e)))
def q400 : Pth := (.s .d4 (.s .d0 (.s .d0 .e)))
def q500 : Pth := (.s .d5 (.s .d0 (.s .d0 .e)))
def q600 : Pth := (.s .d6 (.s .d0 (.s .d0 .e)))
def q700 : Pth := (.s .d7 (.s .d0 (.s .d0 .e)))
def q010 : Pth := (.s .d0 (.s .d1 (.s .d0 .e)))
def q110 : Pth := (.s .d1 (.s .d1 (.s .d0 .e)))
def q210 : Pth := (.s .d2 (.s .d1 (.s .d0 .e)))
def q310 : Pth := (.s .d3 (.s .d1 (.s .d0 .e)))
def q410 : Pth := (.s .d4 (.s .d1 (.s .d0 .e)))
def q510 : Pth := (.s .d5 (.s .d1 (.s .d0 .e)))
def q610 : Pth := (.s .d6 (.s .d1 (.s .d0 .e)))
def q710 : Pth := (.s .d7 (.s .d1 (.s .d0 .e)))
def q020 : Pth := (.s .d0 (.s .d2 (.s .d0 .e)))
def q120 : Pth := (.s .d1 (.s .d2 (.s .d0 .e)))
def q220 : Pth := (.s .d2 (.s .d2 (.s .d0 .e)))
def q320 : Pth := (.s .d3 (.s .d2 (.s .d0 .e)))
def q420 : Pth := (.s .d4 (.s .d2 (.s .d0 .e)))
def q520 : Pth := (.s .d5 (.s .d2 (.s .d0 .e)))
def q620 : Pth := (.s .d6 (.s .d2 (.s .d0 .e)))
def q720 : Pth := (.s .d7 (.s .d2 (.s .d0 .e)))
def q030 : Pth := (.s .d0 (.s .d3 (.s .d0 .e)))
def q130 : Pth := (.s .d1 (.s .d3 (.s .d0 .e)))
def q230 : Pth := (.s .d2 (.s .d3 (.s .d0 .e)))
def q330 : Pth := (.s .d3 (.s .d3 (.s .d0 .e)))
def q430 : Pth := (.s .d4 (.s .d3 (.s .d0 .e)))
def q530 : Pth := (.s .d5 (.s .d3 (.s .d0 .e)))
def q630 : Pth := (.s .d6 (.s .d3 (.s .d0 .e)))
def q730 : Pth := (.s .d7 (.s .d3 (.s .d0 .e)))
def q040 : Pth := (.s .d0 (.s .d4 (.s .d0 .e)))
def q140 : Pth := (.s .d1 (.s .d4 (.s .d0 .e)))
def q240 : Pth := (.s .d2 (.s .d4 (.s .d0 .e)))
def q340 : Pth := (.s .d3 (.s .d4 (.s .d0 .e)))
def q440 : Pth := (.s .d4 (.s .d4 (.s .d0 .e)))
def q540 : Pth := (.s .d5 (.s .d4 (.s .d0 .e)))
def q640 : Pth := (.s .d6 (.s .d4 (.s .d0 .e)))
def q740 : Pth := (.s .d7 (.s .d4 (.s .d0 .e)))
def q050 : Pth := (.s .d0 (.s .d5 (.s .d0 .e)))
def q150 : Pth := (.s .d1 (.s .d5 (.s .d0 .e)))
def q250 : Pth := (.s .d2 (.s .d5 (.s .d0 .e)))
def q350 : Pth := (.s .d3 (.s .d5 (.s .d0 .e)))
def q450 : Pth := (.s .d4 (.s .d5 (.s .d0 .e)))
def q550 : Pth := (.s .d5 (.s .d5 (.s .d0 .e)))
def q650 : Pth := (.s .d6 (.s .d5 (.s .d0 .e)))
def q750 : Pth := (.s .d7 (.s .d5 (.s .d0 .e)))
def q060 : Pth := (.s .d0 (.s .d6 (.s .d0 .e)))
def q160 : Pth := (.s .d1 (.s .d6 (.s .d0 .e)))
def q260 : Pth := (.s .d2 (.s .d6 (.s .d0 .e)))
def q360 : Pth := (.s .d3 (.s .d6 (.s .d0 .e)))
def q460 : Pth := (.s .d4 (.s .d6 (.s .d0 .e)))
def q560 : Pth := (.s .d5 (.s .d6 (.s .d0 .e)))
def q660 : Pth := (.s .d6 (.s .d6 (.s .d0 .e)))
def q760 : Pth := (.s .d7 (.s .d6 (.s .d0 .e)))
def q070 : Pth := (.s .d0 (.s .d7 (.s .d0 .e)))
def q170 : Pth := (.s .d1 (.s .d7 (.s .d0 .e)))
def q270 : Pth := (.s .d2 (.s .d7 (.s .d0 .e)))
def q370 : Pth := (.s .d3 (.s .d7 (.s .d0 .e)))
def q470 : Pth := (.s .d4 (.s .d7 (.s .d0 .e)))
def q570 : Pth := (.s .d5 (.s .d7 (.s .d0 .e)))
def q670 : Pth := (.s .d6 (.s .d7 (.s .d0 .e)))
def q770 : Pth := (.s .d7 (.s .d7 (.s .d0 .e)))
def q001 : Pth := (.s .d0 (.s .d0 (.s .d1 .e)))
def q101 : Pth := (.s .d1 (.s .d0 (.s .d1 .e)))
def q201 : Pth := (.s .d2 (.s .d0 (.s .d1 .e)))
def q301 : Pth := (.s .d3 (.s .d0 (.s .d1 .e)))
def q401 : Pth := (.s .d4 (.s .d0 (.s .d1 .e)))
def q501 : Pth := (.s .d5 (.s .d0 (.s .d1 .e)))
def q601 : Pth := (.s .d6 (.s .d0 (.s .d1 .e)))
def q701 : Pth := (.s .d7 (.s .d0 (.s .d1 .e)))
def q011 : Pth := (.s .d0 (.s .d1 (.s .d1 .e)))
def q111 : Pth := (.s .d1 (.s .d1 (.s .d1 .e)))
def q211 : Pth := (.s .d2 (.s .d1 (.s .d1 .e)))
def q311 : Pth := (.s .d3 (.s .d1 (.s .d1 .e)))
def q411 : Pth := (.s .d4 (.s .d1 (.s .d1 .e)))
def q511 : Pth := (.s .d5 (.s .d1 (.s .d1 .e)))
def q611 : Pth := (.s .d6 (.s .d1 (.s .d1 .e)))
def q711 : Pth := (.s .d7 (.s .d1 (.s .d1 .e)))
def q021 : Pth := (.s .d0 (.s .d2 (.s .d1 .e)))
def q121 : Pth := (.s .d1 (.s .d2 (.s .d1 .e)))
def q221 : Pth := (.s .d2 (.s .d2 (.s .d1 .e)))
def q321 : Pth := (.s .d3 (.s .d2 (.s .d1 .e)))
def q421 : Pth := (.s .d4 (.s .d2 (.s .d1 .e)))
def q521 : Pth := (.s .d5 (.s .d2 (.s .d1 .e)))
def q621 : Pth := (.s .d6 (.s .d2 (.s .d1 .e)))
def q721 : Pth := (.s .d7 (.s .d2 (.s .d1 .e)))
def q031 : Pth := (.s .d0 (.s .d3 (.s .d1 .e)))
def q131 : Pth := (.s .d1 (.s .d3 (.s .d1 .e)))
def q231 : Pth := (.s .d2 (.s .d3 (.s .d1 .e)))
def q331 : Pth := (.s .d3 (.s .d3 (.s .d1 .e)))
def q431 : Pth := (.s .d4 (.s .d3 (.s .d1 .e)))
def q531 : Pth := (.s .d5 (.s .d3 (.s .d1 .e)))
def q631 : Pth := (.s .d6 (.s .d3 (.s .d1 .e)))
def q731 : Pth := (.s .d7 (.s .d3 (.s .d1 .e)))
def q041 : Pth := (.s .d0 (.s .d4 (.s .d1 .e)))
def q141 : Pth := (.s .d1 (.s .d4 (.s .d1 .e)))
def q241 : Pth := (.s .d2 (.s .d4 (.s .d1 .e)))
def q341 : Pth := (.s .d3 (.s .d4 (.s .d1 .e)))
def q441 : Pth := (.s .d4 (.s .d4 (.s .d1 .e)))
def q541 : Pth := (.s .d5 (.s .d4 (.s .d1 .e)))
def q641 : Pth := (.s .d6 (.s .d4 (.s .d1 .e)))
def q741 : Pth := (.s .d7 (.s .d4 (.s .d1 .e)))
def q051 : Pth := (.s .d0 (.s .d5 (.s .d1 .e)))
def q151 : Pth := (.s .d1 (.s .d5 (.s .d1 .e)))
def q251 : Pth := (.s .d2 (.s .d5 (.s .d1 .e)))
def q351 : Pth := (.s .d3 (.s .d5 (.s .d1 .e)))
def q451 : Pth := (.s .d4 (.s .d5 (.s .d1 .e)))
def q551 : Pth := (.s .d5 (.s .d5 (.s .d1 .e)))
def q651 : Pth := (.s .d6 (.s .d5 (.s .d1 .e)))
def q751 : Pth := (.s .d7 (.s .d5 (.s .d1 .e)))
def q061 : Pth := (.s .d0 (.s .d6 (.s .d1 .e)))
def q161 : Pth := (.s .d1 (.s .d6 (.s .d1 .e)))
def q261 : Pth := (.s .d2 (.s .d6 (.s .d1 .e)))
def q361 : Pth := (.s .d3 (.s .d6 (.s .d1 .e)))
def q461 : Pth := (.s .d4 (.s .d6 (.s .d1 .e)))
def q561 : Pth := (.s .d5 (.s .d6 (.s .d1 .e)))
def q661 : Pth := (.s .d6 (.s .d6 (.s .d1 .e)))
def q761 : Pth := (.s .d7 (.s .d6 (.s .d1 .e)))
def q071 : Pth := (.s .d0 (.s .d7 (.s .d1 .e)))
def q171 : Pth := (.s .d1 (.s .d7 (.s .d1 .e)))
def q271 : Pth := (.s .d2 (.s .d7 (.s .d1 .e)))
def q371 : Pth := (.s .d3 (.s .d7 (.s .d1 .e)))
def q471 : Pth := (.s .d4 (.s .d7 (.s .d1 .e)))
def q571 : Pth := (.s .d5 (.s .d7 (.s .d1 .e)))
def q671 : Pth := (.s .d6 (.s .d7 (.s .d1 .e)))
def q771 : Pth := (.s .d7 (.s .d7 (.s .d1 .e)))
def q002 : Pth := (.s .d0 (.s .d0 (.s .d2 .e)))
def q102 : Pth := (.s .d1 (.s .d0 (.s .d2 .e)))
def q202 : Pth := (.s .d2 (.s .d0 (.s .d2 .e)))
def q302 : Pth := (.s .d3 (.s .d0 (.s .d2 .e)))
def q402 : Pth := (.s .d4 (.s .d0 (.s .d2 .e)))
def q502 : Pth := (.s .d5 (.s .d0 (.s .d2 .e)))
def q602 : Pth := (.s .d6 (.s .d0 (.s .d2 .e)))
def q702 : Pth := (.s .d7 (.s .d0 (.s .d2 .e)))
def q012 : Pth := (.s .d0 (.s .d1 (.s .d2 .e)))
def q112 : Pth := (.s .d1 (.s .d1 (.s .d2 .e)))
def q212 : Pth := (.s .d2 (.s .d1 (.s .d2 .e)))
def q312 : Pth := (.s .d3 (.s .d1 (.s .d2 .e)))
def q412 : Pth := (.s .d4 (.s .d1 (.s .d2 .e)))
def q512 : Pth := (.s .d5 (.s .d1 (.s .d2 .e)))
def q612 : Pth := (.s .d6 (.s .d1 (.s .d2 .e)))
def q712 : Pth := (.s .d7 (.s .d1 (.s .d2 .e)))
def q022 : Pth := (.s .d0 (.s .d2 (.s .d2 .e)))
def q122 : Pth := (.s .d1 (.s .d2 (.s .d2 .e)))
def q222 : Pth := (.s .d2 (.s .d2 (.s .d2 .e)))
def q322 : Pth := (.s .d3 (.s .d2 (.s .d2 .e)))
def q422 : Pth := (.s .d4 (.s .d2 (.s .d2 .e)))
def q522 : Pth := (.s .d5 (.s .d2 (.s .d2 .e)))
def q622 : Pth := (.s .d6 (.s .d2 (.s .d2 .e)))
def q722 : Pth := (.s .d7 (.s .d2 (.s .d2 .e)))
def q032 : Pth := (.s .d0 (.s .d3 (.s .d2 .e)))
def q132 : Pth := (.s .d1 (.s .d3 (.s .d2 .e)))
def q232 : Pth := (.s .d2 (.s .d3 (.s .d2 .e)))
def q332 : Pth := (.s .d3 (.s .d3 (.s .d2 .e)))
def q432 : Pth := (.s .d4 (.s .d3 (.s .d2 .e)))
def q532 : Pth := (.s .d5 (.s .d3 (.s .d2 .e)))
def q632 : Pth := (.s .d6 (.s .d3 (.s .d2 .e)))
def q732 : Pth := (.s .d7 (.s .d3 (.s .d2 .e)))
def q042 : Pth := (.s .d0 (.s .d4 (.s .d2 .e)))
def q142 : Pth := (.s .d1 (.s .d4 (.s .d2 .e)))
def q242 : Pth := (.s .d2 (.s .d4 (.s .d2 .e)))
def q342 : Pth := (.s .d3 (.s .d4 (.s .d2 .e)))
def q442 : Pth := (.s .d4 (.s .d4 (.s .d2 .e)))
def q542 : Pth := (.s .d5 (.s .d4 (.s .d2 .e)))
def q642 : Pth := (.s .d6 (.s .d4 (.s .d2 .e)))
def q742 : Pth := (.s .d7 (.s .d4 (.s .d2 .e)))
def q052 : Pth := (.s .d0 (.s .d5 (.s .d2 .e)))
def q152 : Pth := (.s .d1 (.s .d5 (.s .d2 .e)))
def q252 : Pth := (.s .d2 (.s .d5 (.s .d2 .e)))
def q352 : Pth := (.s .d3 (.s .d5 (.s .d2 .e)))
def q452 : Pth := (.s .d4 (.s .d5 (.s .d2 .e)))
def q552 : Pth := (.s .d5 (.s .d5 (.s .d2 .e)))
def q652 : Pth := (.s .d6 (.s .d5 (.s .d2 .e)))
def q752 : Pth := (.s .d7 (.s .d5 (.s .d2 .e)))
def q062 : Pth := (.s .d0 (.s .d6 (.s .d2 .e)))
def q162 : Pth := (.s .d1 (.s .d6 (.s .d2 .e)))
def q262 : Pth := (.s .d2 (.s .d6 (.s .d2 .e)))
def q362 : Pth := (.s .d3 (.s .d6 (.s .d2 .e)))
def q462 : Pth := (.s .d4 (.s .d6 (.s .d2 .e)))
def q562 : Pth := (.s .d5 (.s .d6 (.s .d2 .e)))
def q662 : Pth := (.s .d6 (.s .d6 (.s .d2 .e)))
def q762 : Pth := (.s .d7 (.s .d6 (.s .d2 .e)))
def q072 : Pth := (.s .d0 (.s .d7 (.s .d2 .e)))
def q172 : Pth := (.s .d1 (.s .d7 (.s .d2 .e)))
def q272 : Pth := (.s .d2 (.s .d7 (.s .d2 .e)))
def q372 : Pth := (.s .d3 (.s .d7 (.s .d2 .e)))
def q472 : Pth := (.s .d4 (.s .d7 (.s .d2 .e)))
def q572 : Pth := (.s .d5 (.s .d7 (.s .d2 .e)))
def q672 : Pth := (.s .d6 (.s .d7 (.s .d2 .e)))
def q772 : Pth := (.s .d7 (.s .d7 (.s .d2 .e)))
def q003 : Pth := (.s .d0 (.s .d0 (.s .d3 .e)))
def q103 : Pth := (.s .d1 (.s .d0 (.s .d3 .e)))
def q203 : Pth := (.s .d2 (.s .d0 (.s .d3 .e)))
def q303 : Pth := (.s .d3 (.s .d0 (.s .d3 .e)))
def q403 : Pth := (.s .d4 (.s .d0 (.s .d3 .e)))
def q503 : Pth := (.s .d5 (.s .d0 (.s .d3 .e)))
def q603 : Pth := (.s .d6 (.s .d0 (.s .d3 .e)))
def q703 : Pth := (.s .d7 (.s .d0 (.s .d3 .e)))
def q013 : Pth := (.s .d0 (.s .d1 (.s .d3 .e)))
def q113 : Pth := (.s .d1 (.s .d1 (.s .d3 .e)))
def q213 : Pth := (.s .d2 (.s .d1 (.s .d3 .e)))
def q313 : Pth := (.s .d3 (.s .d1 (.s .d3 .e)))
def q413 : Pth := (.s .d4 (.s .d1 (.s .d3 .e)))
def q513 : Pth := (.s .d5 (.s .d1 (.s .d3 .e)))
def q613 : Pth := (.s .d6 (.s .d1 (.s .d3 .e)))
def q713 : Pth := (.s .d7 (.s .d1 (.s .d3 .e)))
def q023 : Pth := (.s .d0 (.s .d2 (.s .d3 .e)))
def q123 : Pth := (.s .d1 (.s .d2 (.s .d3 .e)))
def q223 : Pth := (.s .d2 (.s .d2 (.s .d3 .e)))
def q323 : Pth := (.s .d3 (.s .d2 (.s .d3 .e)))
def q423 : Pth := (.s .d4 (.s .d2 (.s .d3 .e)))
def q523 : Pth := (.s .d5 (.s .d2 (.s .d3 .e)))
def q623 : Pth := (.s .d6 (.s .d2 (.s .d3 .e)))
def q723 : Pth := (.s .d7 (.s .d2 (.s .d3 .e)))
def q033 : Pth := (.s .d0 (.s .d3 (.s .d3 .e)))
def q133 : Pth := (.s .d1 (.s .d3 (.s .d3 .e)))
def q233 : Pth := (.s .d2 (.s .d3 (.s .d3 .e)))
def q333 : Pth := (.s .d3 (.s .d3 (.s .d3 .e)))
def q433 : Pth := (.s .d4 (.s .d3 (.s .d3 .e)))
def q533 : Pth := (.s .d5 (.s .d3 (.s .d3 .e)))
def q633 : Pth := (.s .d6 (.s .d3 (.s .d3 .e)))
def q733 : Pth := (.s .d7 (.s .d3 (.s .d3 .e)))
def q043 : Pth := (.s .d0 (.s .d4 (.s .d3 .e)))
def q143 : Pth := (.s .d1 (.s .d4 (.s .d3 .e)))
def q243 : Pth := (.s .d2 (.s .d4 (.s .d3 .e)))
def q343 : Pth := (.s .d3 (.s .d4 (.s .d3 .e)))
def q443 : Pth := (.s .d4 (.s .d4 (.s .d3 .e)))
def q543 : Pth := (.s .d5 (.s .d4 (.s .d3 .e)))
def q643 : Pth := (.s .d6 (.s .d4 (.s .d3 .e)))
def q743 : Pth := (.s .d7 (.s .d4 (.s .d3 .e)))
def q053 : Pth := (.s .d0 (.s .d5 (.s .d3 .e)))
def q153 : Pth := (.s .d1 (.s .d5 (.s .d3 .e)))
def q253 : Pth := (.s .d2 (.s .d5 (.s .d3 .e)))
def q353 : Pth := (.s .d3 (.s .d5 (.s .d3 .e)))
def q453 : Pth := (.s .d4 (.s .d5 (.s .d3 .e)))
def q553 : Pth := (.s .d5 (.s .d5 (.s .d3 .e)))
def q653 : Pth := (.s .d6 (.s .d5 (.s .d3 .e)))
def q753 : Pth := (.s .d7 (.s .d5 (.s .d3 .e)))
def q063 : Pth := (.s .d0 (.s .d6 (.s .d3 .e)))
def q163 : Pth := (.s .d1 (.s .d6 (.s .d3 .e)))
def q263 : Pth := (.s .d2 (.s .d6 (.s .d3 .e)))
def q363 : Pth := (.s .d3 (.s .d6 (.s .d3 .e)))
def q463 : Pth := (.s .d4 (.s .d6 (.s .d3 .e)))
def q563 : Pth := (.s .d5 (.s .d6 (.s .d3 .e)))
def q663 : Pth := (.s .d6 (.s .d6 (.s .d3 .e)))
def q763 : Pth := (.s .d7 (.s .d6 (.s .d3 .e)))
def q073 : Pth := (.s .d0 (.s .d7 (.s .d3 .e)))
def q173 : Pth := (.s .d1 (.s .d7 (.s .d3 .e)))
def q273 : Pth := (.s .d2 (.s .d7 (.s .d3 .e)))
def q373 : Pth := (.s .d3 (.s .d7 (.s .d3 .e)))
def q473 : Pth := (.s .d4 (.s .d7 (.s .d3 .e)))
def q573 : Pth := (.s .d5 (.s .d7 (.s .d3 .e)))
def q673 : Pth := (.s .d6 (.s .d7 (.s .d3 .e)))
def q773 : Pth := (.s .d7 (.s .d7 (.s .d3 .e)))
def q004 : Pth := (.s .d0 (.s .d0 (.s .d4 .e)))
def q104 : Pth := (.s .d1 (.s .d0 (.s .d4 .e)))
def q204 : Pth := (.s .d2 (.s .d0 (.s .d4 .e)))
def q304 : Pth := (.s .d3 (.s .d0 (.s .d4 .e)))
def q404 : Pth := (.s .d4 (.s .d0 (.s .d4 .e)))
def q504 : Pth := (.s .d5 (.s .d0 (.s .d4 .e)))
def q604 : Pth := (.s .d6 (.s .d0 (.s .d4 .e)))
def q704 : Pth := (.s .d7 (.s .d0 (.s .d4 .e)))
def q014 : Pth := (.s .d0 (.s .d1 (.s .d4 .e)))
def q114 : Pth := (.s .d1 (.s .d1 (.s .d4 .e)))
def q214 : Pth := (.s .d2 (.s .d1 (.s .d4 .e)))
def q314 : Pth := (.s .d3 (.s .d1 (.s .d4 .e)))
def q414 : Pth := (.s .d4 (.s .d1 (.s .d4 .e)))
def q514 : Pth := (.s .d5 (.s .d1 (.s .d4 .e)))
def q614 : Pth := (.s .d6 (.s .d1 (.s .d4 .e)))
def q714 : Pth := (.s .d7 (.s .d1 (.s .d4 .e)))
def q024 : Pth := (.s .d0 (.s .d2 (.s .d4 .e)))
def q124 : Pth := (.s .d1 (.s .d2 (.s .d4 .e)))
def q224 : Pth := (.s .d2 (.s .d2 (.s .d4 .e)))
def q324 : Pth := (.s .d3 (.s .d2 (.s .d4 .e)))
def q424 : Pth := (.s .d4 (.s .d2 (.s .d4 .e)))
def q524 : Pth := (.s .d5 (.s .d2 (.s .d4 .e)))
def q624 : Pth := (.s .d6 (.s .d2 (.s .d4 .e)))
def q724 : Pth := (.s .d7 (.s .d2 (.s .d4 .e)))
def q034 : Pth := (.s .d0 (.s .d3 (.s .d4 .e)))
def q134 : Pth := (.s .d1 (.s .d3 (.s .d4 .e)))
def q234 : Pth := (.s .d2 (.s .d3 (.s .d4 .e)))
def q334 : Pth := (.s .d3 (.s .d3 (.s .d4 .e)))
def q434 : Pth := (.s .d4 (.s .d3 (.s .d4 .e)))
def q534 : Pth := (.s .d5 (.s .d3 (.s .d4 .e)))
def q634 : Pth := (.s .d6 (.s .d3 (.s .d4 .e)))
def q734 : Pth := (.s .d7 (.s .d3 (.s .d4 .e)))
def q044 : Pth := (.s .d0 (.s .d4 (.s .d4 .e)))
def q144 : Pth := (.s .d1 (.s .d4 (.s .d4 .e)))
def q244 : Pth := (.s .d2 (.s .d4 (.s .d4 .e)))
def q344 : Pth := (.s .d3 (.s .d4 (.s .d4 .e)))
def q444 : Pth := (.s .d4 (.s .d4 (.s .d4 .e)))
def q544 : Pth := (.s .d5 (.s .d4 (.s .d4 .e)))
def q644 : Pth := (.s .d6 (.s .d4 (.s .d4 .e)))
def q744 : Pth := (.s .d7 (.s .d4 (.s .d4 .e)))
def q054 : Pth := (.s .d0 (.s .d5 (.s .d4 .e)))
def q154 : Pth := (.s .d1 (.s .d5 (.s .d4 .e)))
def q254 : Pth := (.s .d2 (.s .d5 (.s .d4 .e)))
def q354 : Pth := (.s .d3 (.s .d5 (.s .d4 .e)))
def q454 : Pth := (.s .d4 (.s .d5 (.s .d4 .e)))
def q554 : Pth := (.s .d5 (.s .d5 (.s .d4 .e)))
def q654 : Pth := (.s .d6 (.s .d5 (.s .d4 .e)))
def q754 : Pth := (.s .d7 (.s .d5 (.s .d4 .e)))
def q064 : Pth := (.s .d0 (.s .d6 (.s .d4 .e)))
def q164 : Pth := (.s .d1 (.s .d6 (.s .d4 .e)))
def q264 : Pth := (.s .d2 (.s .d6 (.s .d4 .e)))
def q364 : Pth := (.s .d3 (.s .d6 (.s .d4 .e)))
def q464 : Pth := (.s .d4 (.s .d6 (.s .d4 .e)))
def q564 : Pth := (.s .d5 (.s .d6 (.s .d4 .e)))
def q664 : Pth := (.s .d6 (.s .d6 (.s .d4 .e)))
def q764 : Pth := (.s .d7 (.s .d6 (.s .d4 .e)))
def q074 : Pth := (.s .d0 (.s .d7 (.s .d4 .e)))
def q174 : Pth := (.s .d1 (.s .d7 (.s .d4 .e)))
def q274 : Pth := (.s .d2 (.s .d7 (.s .d4 .e)))
def q374 : Pth := (.s .d3 (.s .d7 (.s .d4 .e)))
def q474 : Pth := (.s .d4 (.s .d7 (.s .d4 .e)))
def q574 : Pth := (.s .d5 (.s .d7 (.s .d4 .e)))
def q674 : Pth := (.s .d6 (.s .d7 (.s .d4 .e)))
def q774 : Pth := (.s .d7 (.s .d7 (.s .d4 .e)))
def q005 : Pth := (.s .d0 (.s .d0 (.s .d5 .e)))
def q105 : Pth := (.s .d1 (.s .d0 (.s .d5 .e)))
def q205 : Pth := (.s .d2 (.s .d0 (.s .d5 .e)))
def q305 : Pth := (.s .d3 (.s .d0 (.s .d5 .e)))
def q405 : Pth := (.s .d4 (.s .d0 (.s .d5 .e)))
def q505 : Pth := (.s .d5 (.s .d0 (.s .d5 .e)))
def q605 : Pth := (.s .d6 (.s .d0 (.s .d5 .e)))
def q705 : Pth := (.s .d7 (.s .d0 (.s .d5 .e)))
def q015 : Pth := (.s .d0 (.s .d1 (.s .d5 .e)))
def q115 : Pth := (.s .d1 (.s .d1 (.s .d5 .e)))
def q215 : Pth := (.s .d2 (.s .d1 (.s .d5 .e)))
def q315 : Pth := (.s .d3 (.s .d1 (.s .d5 .e)))
def q415 : Pth := (.s .d4 (.s .d1 (.s .d5 .e)))
def q515 : Pth := (.s .d5 (.s .d1 (.s .d5 .e)))
def q615 : Pth := (.s .d6 (.s .d1 (.s .d5 .e)))
def q715 : Pth := (.s .d7 (.s .d1 (.s .d5 .e)))
def q025 : Pth := (.s .d0 (.s .d2 (.s .d5 .e)))
def q125 : Pth := (.s .d1 (.s .d2 (.s .d5 .e)))
def q225 : Pth := (.s .d2 (.s .d2 (.s .d5 .e)))
def q325 : Pth := (.s .d3 (.s .d2 (.s .d5 .e)))
def q425 : Pth := (.s .d4 (.s .d2 (.s .d5 .e)))
def q525 : Pth := (.s .d5 (.s .d2 (.s .d5 .e)))
def q625 : Pth := (.s .d6 (.s .d2 (.s .d5 .e)))
def q725 : Pth := (.s .d7 (.s .d2 (.s .d5 .e)))
def q035 : Pth := (.s .d0 (.s .d3 (.s .d5 .e)))
def q135 : Pth := (.s .d1 (.s .d3 (.s .d5 .e)))
def q235 : Pth := (.s .d2 (.s .d3 (.s .d5 .e)))
def q335 : Pth := (.s .d3 (.s .d3 (.s .d5 .e)))
def q435 : Pth := (.s .d4 (.s .d3 (.s .d5 .e)))
def q535 : Pth := (.s .d5 (.s .d3 (.s .d5 .e)))
def q635 : Pth := (.s .d6 (.s .d3 (.s .d5 .e)))
def q735 : Pth := (.s .d7 (.s .d3 (.s .d5 .e)))
def q045 : Pth := (.s .d0 (.s .d4 (.s .d5 .e)))
def q145 : Pth := (.s .d1 (.s .d4 (.s .d5 .e)))
def q245 : Pth := (.s .d2 (.s .d4 (.s .d5 .e)))
def q345 : Pth := (.s .d3 (.s .d4 (.s .d5 .e)))
def q445 : Pth := (.s .d4 (.s .d4 (.s .d5 .e)))
def q545 : Pth := (.s .d5 (.s .d4 (.s .d5 .e)))
def q645 : Pth := (.s .d6 (.s .d4 (.s .d5 .e)))
def q745 : Pth := (.s .d7 (.s .d4 (.s .d5 .e)))
def q055 : Pth := (.s .d0 (.s .d5 (.s .d5 .e)))
def q155 : Pth := (.s .d1 (.s .d5 (.s .d5 .e)))
def q255 : Pth := (.s .d2 (.s .d5 (.s .d5 .e)))
def q355 : Pth := (.s .d3 (.s .d5 (.s .d5 .e)))
def q455 : Pth := (.s .d4 (.s .d5 (.s .d5 .e)))
def q555 : Pth := (.s .d5 (.s .d5 (.s .d5 .e)))
def q655 : Pth := (.s .d6 (.s .d5 (.s .d5 .e)))
def q755 : Pth := (.s .d7 (.s .d5 (.s .d5 .e)))
def q065 : Pth := (.s .d0 (.s .d6 (.s .d5 .e)))
def q165 : Pth := (.s .d1 (.s .d6 (.s .d5 .e)))
def q265 : Pth := (.s .d2 (.s .d6 (.s .d5 .e)))
def q365 : Pth := (.s .d3 (.s .d6 (.s .d5 .e)))
def q465 : Pth := (.s .d4 (.s .d6 (.s .d5 .e)))
def q565 : Pth := (.s .d5 (.s .d6 (.s .d5 .e)))
def q665 : Pth := (.s .d6 (.s .d6 (.s .d5 .e)))
def q765 : Pth := (.s .d7 (.s .d6 (.s .d5 .e)))
def q075 : Pth := (.s .d0 (.s .d7 (.s .d5 .e)))
def q175 : Pth := (.s .d1 (.s .d7 (.s .d5 .e)))
def q275 : Pth := (.s .d2 (.s .d7 (.s .d5 .e)))
def q375 : Pth := (.s .d3 (.s .d7 (.s .d5 .e)))
def q475 : Pth := (.s .d4 (.s .d7 (.s .d5 .e)))
def q575 : Pth := (.s .d5 (.s .d7 (.s .d5 .e)))
def q675 : Pth := (.s .d6 (.s .d7 (.s .d5 .e)))
def q775 : Pth := (.s .d7 (.s .d7 (.s .d5 .e)))
def q006 : Pth := (.s .d0 (.s .d0 (.s .d6 .e)))
def q106 : Pth := (.s .d1 (.s .d0 (.s .d6 .e)))
def q206 : Pth := (.s .d2 (.s .d0 (.s .d6 .e)))
def q306 : Pth := (.s .d3 (.s .d0 (.s .d6 .e)))
def q406 : Pth := (.s .d4 (.s .d0 (.s .d6 .e)))
def q506 : Pth := (.s .d5 (.s .d0 (.s .d6 .e)))
def q606 : Pth := (.s .d6 (.s .d0 (.s .d6 .e)))
def q706 : Pth := (.s .d7 (.s .d0 (.s .d6 .e)))
def q016 : Pth := (.s .d0 (.s .d1 (.s .d6 .e)))
def q116 : Pth := (.s .d1 (.s .d1 (.s .d6 .e)))
def q216 : Pth := (.s .d2 (.s .d1 (.s .d6 .e)))
def q316 : Pth := (.s .d3 (.s .d1 (.s .d6 .e)))
def q416 : Pth := (.s .d4 (.s .d1 (.s .d6 .e)))
def q516 : Pth := (.s .d5 (.s .d1 (.s .d6 .e)))
def q616 : Pth := (.s .d6 (.s .d1 (.s .d6 .e)))
def q716 : Pth := (.s .d7 (.s .d1 (.s .d6 .e)))
def q026 : Pth := (.s .d0 (.s .d2 (.s .d6 .e)))
def q126 : Pth := (.s .d1 (.s .d2 (.s .d6 .e)))
def q226 : Pth := (.s .d2 (.s .d2 (.s .d6 .e)))
def q326 : Pth := (.s .d3 (.s .d2 (.s .d6 .e)))
def q426 : Pth := (.s .d4 (.s .d2 (.s .d6 .e)))
def q526 : Pth := (.s .d5 (.s .d2 (.s .d6 .e)))
def q626 : Pth := (.s .d6 (.s .d2 (.s .d6 .e)))
def q726 : Pth := (.s .d7 (.s .d2 (.s .d6 .e)))
def q036 : Pth := (.s .d0 (.s .d3 (.s .d6 .e)))
def q136 : Pth := (.s .d1 (.s .d3 (.s .d6 .e)))
def q236 : Pth := (.s .d2 (.s .d3 (.s .d6 .e)))
def q336 : Pth := (.s .d3 (.s .d3 (.s .d6 .e)))
def q436 : Pth := (.s .d4 (.s .d3 (.s .d6 .e)))
def q536 : Pth := (.s .d5 (.s .d3 (.s .d6 .e)))
def q636 : Pth := (.s .d6 (.s .d3 (.s .d6 .e)))
def q736 : Pth := (.s .d7 (.s .d3 (.s .d6 .e)))
def q046 : Pth := (.s .d0 (.s .d4 (.s .d6 .e)))
def q146 : Pth := (.s .d1 (.s .d4 (.s .d6 .e)))
def q246 : Pth := (.s .d2 (.s .d4 (.s .d6 .e)))
def q346 : Pth := (.s .d3 (.s .d4 (.s .d6 .e)))
def q446 : Pth := (.s .d4 (.s .d4 (.s .d6 .e)))
def q546 : Pth := (.s .d5 (.s .d4 (.s .d6 .e)))
def q646 : Pth := (.s .d6 (.s .d4 (.s .d6 .e)))
def q746 : Pth := (.s .d7 (.s .d4 (.s .d6 .e)))
def q056 : Pth := (.s .d0 (.s .d5 (.s .d6 .e)))
def q156 : Pth := (.s .d1 (.s .d5 (.s .d6 .e)))
def q256 : Pth := (.s .d2 (.s .d5 (.s .d6 .e)))
def q356 : Pth := (.s .d3 (.s .d5 (.s .d6 .e)))
def q456 : Pth := (.s .d4 (.s .d5 (.s .d6 .e)))
def q556 : Pth := (.s .d5 (.s .d5 (.s .d6 .e)))
def q656 : Pth := (.s .d6 (.s .d5 (.s .d6 .e)))
def q756 : Pth := (.s .d7 (.s .d5 (.s .d6 .e)))
def q066 : Pth := (.s .d0 (.s .d6 (.s .d6 .e)))
def q166 : Pth := (.s .d1 (.s .d6 (.s .d6 .e)))
def q266 : Pth := (.s .d2 (.s .d6 (.s .d6 .e)))
def q366 : Pth := (.s .d3 (.s .d6 (.s .d6 .e)))
def q466 : Pth := (.s .d4 (.s .d6 (.s .d6 .e)))
def q566 : Pth := (.s .d5 (.s .d6 (.s .d6 .e)))
def q666 : Pth := (.s .d6 (.s .d6 (.s .d6 .e)))
def q766 : Pth := (.s .d7 (.s .d6 (.s .d6 .e)))
def q076 : Pth := (.s .d0 (.s .d7 (.s .d6 .e)))
def q176 : Pth := (.s .d1 (.s .d7 (.s .d6 .e)))
def q276 : Pth := (.s .d2 (.s .d7 (.s .d6 .e)))
def q376 : Pth := (.s .d3 (.s .d7 (.s .d6 .e)))
def q476 : Pth := (.s .d4 (.s .d7 (.s .d6 .e)))
def q576 : Pth := (.s .d5 (.s .d7 (.s .d6 .e)))
def q676 : Pth := (.s .d6 (.s .d7 (.s .d6 .e)))
def q776 : Pth := (.s .d7 (.s .d7 (.s .d6 .e)))
def q007 : Pth := (.s .d0 (.s .d0 (.s .d7 .e)))
def q107 : Pth := (.s .d1 (.s .d0 (.s .d7 .e)))
def q207 : Pth := (.s .d2 (.s .d0 (.s .d7 .e)))
def q307 : Pth := (.s .d3 (.s .d0 (.s .d7 .e)))
def q407 : Pth := (.s .d4 (.s .d0 (.s .d7 .e)))
def q507 : Pth := (.s .d5 (.s .d0 (.s .d7 .e)))
def q607 : Pth := (.s .d6 (.s .d0 (.s .d7 .e)))
def q707 : Pth := (.s .d7 (.s .d0 (.s .d7 .e)))
def q017 : Pth := (.s .d0 (.s .d1 (.s .d7 .e)))
def q117 : Pth := (.s .d1 (.s .d1 (.s .d7 .e)))
def q217 : Pth := (.s .d2 (.s .d1 (.s .d7 .e)))
def q317 : Pth := (.s .d3 (.s .d1 (.s .d7 .e)))
def q417 : Pth := (.s .d4 (.s .d1 (.s .d7 .e)))
def q517 : Pth := (.s .d5 (.s .d1 (.s .d7 .e)))
def q617 : Pth := (.s .d6 (.s .d1 (.s .d7 .e)))
def q717 : Pth := (.s .d7 (.s .d1 (.s .d7 .e)))
def q027 : Pth := (.s .d0 (.s .d2 (.s .d7 .e)))
def q127 : Pth := (.s .d1 (.s .d2 (.s .d7 .e)))
def q227 : Pth := (.s .d2 (.s .d2 (.s .d7 .e)))
def q327 : Pth := (.s .d3 (.s .d2 (.s .d7 .e)))
def q427 : Pth := (.s .d4 (.s .d2 (.s .d7 .e)))
def q527 : Pth := (.s .d5 (.s .d2 (.s .d7 .e)))
def q627 : Pth := (.s .d6 (.s .d2 (.s .d7 .e)))
def q727 : Pth := (.s .d7 (.s .d2 (.s .d7 .e)))
def q037 : Pth := (.s .d0 (.s .d3 (.s .d7 .e)))
def q137 : Pth := (.s .d1 (.s .d3 (.s .d7 .e)))
def q237 : Pth := (.s .d2 (.s .d3 (.s .d7 .e)))
def q337 : Pth := (.s .d3 (.s .d3 (.s .d7 .e)))
def q437 : Pth := (.s .d4 (.s .d3 (.s .d7 .e)))
def q537 : Pth := (.s .d5 (.s .d3 (.s .d7 .e)))
def q637 : Pth := (.s .d6 (.s .d3 (.s .d7 .e)))
def q737 : Pth := (.s .d7 (.s .d3 (.s .d7 .e)))
def q047 : Pth := (.s .d0 (.s .d4 (.s .d7 .e)))
def q147 : Pth := (.s .d1 (.s .d4 (.s .d7 .e)))
def q247 : Pth := (.s .d2 (.s .d4 (.s .d7 .e)))
def q347 : Pth := (.s .d3 (.s .d4 (.s .d7 .e)))
def q447 : Pth := (.s .d4 (.s .d4 (.s .d7 .e)))
def q547 : Pth := (.s .d5 (.s .d4 (.s .d7 .e)))
def q647 : Pth := (.s .d6 (.s .d4 (.s .d7 .e)))
def q747 : Pth := (.s .d7 (.s .d4 (.s .d7 .e)))
def q057 : Pth := (.s .d0 (.s .d5 (.s .d7 .e)))
def q157 : Pth := (.s .d1 (.s .d5 (.s .d7 .e)))
def q257 : Pth := (.s .d2 (.s .d5 (.s .d7 .e)))
def q357 : Pth := (.s .d3 (.s .d5 (.s .d7 .e)))
def q457 : Pth := (.s .d4 (.s .d5 (.s .d7 .e)))
def q557 : Pth := (.s .d5 (.s .d5 (.s .d7 .e)))
def q657 : Pth := (.s .d6 (.s .d5 (.s .d7 .e)))
def q757 : Pth := (.s .d7 (.s .d5 (.s .d7 .e)))
def q067 : Pth := (.s .d0 (.s .d6 (.s .d7 .e)))
def q167 : Pth := (.s .d1 (.s .d6 (.s .d7 .e)))
def q267 : Pth := (.s .d2 (.s .d6 (.s .d7 .e)))
def q367 : Pth := (.s .d3 (.s .d6 (.s .d7 .e)))
def q467 : Pth := (.s .d4 (.s .d6 (.s .d7 .e)))
def q567 : Pth := (.s .d5 (.s .d6 (.s .d7 .e)))
def q667 : Pth := (.s .d6 (.s .d6 (.s .d7 .e)))
def q767 : Pth := (.s .d7 (.s .d6 (.s .d7 .e)))
def q077 : Pth := (.s .d0 (.s .d7 (.s .d7 .e)))
def q177 : Pth := (.s .d1 (.s .d7 (.s .d7 .e)))
def q277 : Pth := (.s .d2 (.s .d7 (.s .d7 .e)))
def q377 : Pth := (.s .d3 (.s .d7 (.s .d7 .e)))
def q477 : Pth := (.s .d4 (.s .d7 (.s .d7 .e)))
def q577 : Pth := (.s .d5 (.s .d7 (.s .d7 .e)))
def q677 : Pth := (.s .d6 (.s .d7 (.s .d7 .e)))
def q777 : Pth := (.s .d7 (.s .d7 (.s .d7 .e)))
def q0001 : Pth := (.s .d0 (.s .d0 (.s .d0 (.s .d1 .e))))
def q1001 : Pth := (.s .d1 (.s .d0 (.s .d0 (.s .d1 .e))))
def q2001 : Pth := (.s .d2 (.s .d0 (.s .d0 (.s .d1 .e))))
def q3001 : Pth := (.s .d3 (.s .d0 (.s .d0 (.s .d1 .e))))
def q4001 : Pth := (.s .d4 (.s .d0 (.s .d0 (.s .d1 .e))))
def q5001 : Pth := (.s .d5 (.s .d0 (.s .d0 (.s .d1 .e))))
def q6001 : Pth := (.s .d6 (.s .d0 (.s .d0 (.s .d1 .e))))
def q7001 : Pth := (.s .d7 (.s .d0 (.s .d0 (.s .d1 .e))))
def q0101 : Pth := (.s .d0 (.s .d1 (.s .d0 (.s .d1 .e))))
def q1101 : Pth := (.s .d1 (.s .d1 (.s .d0 (.s .d1 .e))))
def q2101 : Pth := (.s .d2 (.s .d1 (.s .d0 (.s .d1 .e))))
def q3101 : Pth := (.s .d3 (.s .d1 (.s .d0 (.s .d1 .e))))
def q4101 : Pth := (.s .d4 (.s .d1 (.s .d0 (.s .d1 .e))))
def q5101 : Pth := (.s .d5 (.s .d1 (.s .d0 (.s .d1 .e))))
def q6101 : Pth := (.s .d6 (.s .d1 (.s .d0 (.s .d1 .e))))
def q7101 : Pth := (.s .d7 (.s .d1 (.s .d0 (.s .d1 .e))))
def q0201 : Pth := (.s .d0 (.s .d2 (.s .d0 (.s .d1 .e))))
def q1201 : Pth := (.s .d1 (.s .d2 (.s .d0 (.s .d1 .e))))
def q2201 : Pth := (.s .d2 (.s .d2 (.s .d0 (.s .d1 .e))))
def q3201 : Pth := (.s .d3 (.s .d2 (.s .d0 (.s .d1 .e))))
def q4201 : Pth := (.s .d4 (.s .d2 (.s .d0 (.s .d1 .e))))
def q5201 : Pth := (.s .d5 (.s .d2 (.s .d0 (.s .d1 .e))))
def q6201 : Pth := (.s .d6 (.s .d2 (.s .d0 (.s .d1 .e))))
def q7201 : Pth := (.s .d7 (.s .d2 (.s .d0 (.s .d1 .e))))
def q0301 : Pth := (.s .d0 (.s .d3 (.s .d0 (.s .d1 .e))))
def q1301 : Pth := (.s .d1 (.s .d3 (.s .d0 (.s .d1 .e))))
def q2301 : Pth := (.s .d2 (.s .d3 (.s .d0 (.s .d1 .e))))
def q3301 : Pth := (.s .d3 (.s .d3 (.s .d0 (.s .d1 .e))))
def q4301 : Pth := (.s .d4 (.s .d3 (.s .d0 (.s .d1 .e))))
def q5301 : Pth := (.s .d5 (.s .d3 (.s .d0 (.s .d1 .e))))
def q6301 : Pth := (.s .d6 (.s .d3 (.s .d0 (.s .d1 .e))))
def q7301 : Pth := (.s .d7 (.s .d3 (.s .d0 (.s .d1 .e))))
def q0401 : Pth := (.s .d0 (.s .d4 (.s .d0 (.s .d1 .e))))
def q1401 : Pth := (.s .d1 (.s .d4 (.s .d0 (.s .d1 .e))))
def q2401 : Pth := (.s .d2 (.s .d4 (.s .d0 (.s .d1 .e))))
def q3401 : Pth := (.s .d3 (.s .d4 (.s .d0 (.s .d1 .e))))
def q4401 : Pth := (.s .d4 (.s .d4 (.s .d0 (.s .d1 .e))))
def q5401 : Pth := (.s .d5 (.s .d4 (.s .d0 (.s .d1 .e))))
def q6401 : Pth := (.s .d6 (.s .d4 (.s .d0 (.s .d1 .e))))
def q7401 : Pth := (.s .d7 (.s .d4 (.s .d0 (.s .d1 .e))))
def q0501 : Pth := (.s .d0 (.s .d5 (.s .d0 (.s .d1 .e))))
def q1501 : Pth := (.s .d1 (.s .d5 (.s .d0 (.s .d1 .e))))
def q2501 : Pth := (.s .d2 (.s .d5 (.s .d0 (.s .d1 .e))))
def q3501 : Pth := (.s .d3 (.s .d5 (.s .d0 (.s .d1 .e))))
def q4501 : Pth := (.s .d4 (.s .d5 (.s .d0 (.s .d1 .e))))
def q5501 : Pth := (.s .d5 (.s .d5 (.s .d0 (.s .d1 .e))))
def q6501 : Pth := (.s .d6 (.s .d5 (.s .d0 (.s .d1 .e))))
def q7501 : Pth := (.s .d7 (.s .d5 (.s .d0 (.s .d1 .e))))
def q0601 : Pth := (.s .d0 (.s .d6 (.s .d0 (.s .d1 .e))))
def q1601 : Pth := (.s .d1 (.s .d6 (.s .d0 (.s .d1 .e))))
def q2601 : Pth := (.s .d2 (.s .d6 (.s .d0 (.s .d1 .e))))
def q3601 : Pth := (.s .d3 (.s .d6 (.s .d0 (.s .d1 .e))))
def q4601 : Pth := (.s .d4 (.s .d6 (.s .d0 (.s .d1 .e))))
def q5601 : Pth := (.s .d5 (.s .d6 (.s .d0 (.s .d1 .e))))
def q6601 : Pth := (.s .d6 (.s .d6 (.s .d0 (.s .d1 .e))))
def q7601 : Pth := (.s .d7 (.s .d6 (.s .d0 (.s .d1 .e))))
def q0701 : Pth := (.s .d0 (.s .d7 (.s .d0 (.s .d1 .e))))
def q1701 : Pth := (.s .d1 (.s .d7 (.s .d0 (.s .d1 .e))))
def q2701 : Pth := (.s .d2 (.s .d7 (.s .d0 (.s .d1 .e))))
def q3701 : Pth := (.s .d3 (.s .d7 (.s .d0 (.s .d1 .e))))
def q4701 : Pth := (.s .d4 (.s .d7 (.s .d0 (.s .d1 .e))))
def q5701 : Pth := (.s .d5 (.s .d7 (.s .d0 (.s .d1 .e))))
def q6701 : Pth := (.s .d6 (.s .d7 (.s .d0 (.s .d1 .e))))
def q7701 : Pth := (.s .d7 (.s .d7 (.s .d0 (.s .d1 .e))))
def q0011 : Pth := (.s .d0 (.s .d0 (.s .d1 (.s .d1 .e))))
def q1011 : Pth := (.s .d1 (.s .d0 (.s .d1 (.s .d1 .e))))
def q2011 : Pth := (.s .d2 (.s .d0 (.s .d1 (.s .d1 .e))))
def q3011 : Pth := (.s .d3 (.s .d0 (.s .d1 (.s .d1 .e))))
def q4011 : Pth := (.s .d4 (.s .d0 (.s .d1 (.s .d1 .e))))
def q5011 : Pth := (.s .d5 (.s .d0 (.s .d1 (.s .d1 .e))))
def q6011 : Pth := (.s .d6 (.s .d0 (.s .d1 (.s .d1 .e))))
def q7011 : Pth := (.s .d7 (.s .d0 (.s .d1 (.s .d1 .e))))
def q0111 : Pth := (.s .d0 (.s .d1 (.s .d1 (.s .d1 .e))))
def q1111 : Pth := (.s .d1 (.s .d1 (.s .d1 (.s .d1 .e))))
def q2111 : Pth := (.s .d2 (.s .d1 (.s .d1 (.s .d1 .e))))
def q3111 : Pth := (.s .d3 (.s .d1 (.s .d1 (.s .d1 .e))))
def q4111 : Pth := (.s .d4 (.s .d1 (.s .d1 (.s .d1 .e))))
def q5111 : Pth := (.s .d5 (.s .d1 (.s .d1 (.s .d1 .e))))
def q6111 : Pth := (.s .d6 (.s .d1 (.s .d1 (.s .d1 .e))))
def q7111 : Pth := (.s .d7 (.s .d1 (.s .d1 (.s .d1 .e))))
def q0211 : Pth := (.s .d0 (.s .d2 (.s .d1 (.s .d1 .e))))
def q1211 : Pth := (.s .d1 (.s .d2 (.s .d1 (.s .d1 .e))))
def q2211 : Pth := (.s .d2 (.s .d2 (.s .d1 (.s .d1 .e))))
def q3211 : Pth := (.s .d3 (.s .d2 (.s .d1 (.s .d1 .e))))
def q4211 : Pth := (.s .d4 (.s .d2 (.s .d1 (.s .d1 .e))))
def q5211 : Pth := (.s .d5 (.s .d2 (.s .d1 (.s .d1 .e))))
def q6211 : Pth := (.s .d6 (.s .d2 (.s .d1 (.s .d1 .e))))
def q7211 : Pth := (.s .d7 (.s .d2 (.s .d1 (.s .d1 .e))))
def x0 : Ix := .z
def x1 : Ix := .s x0
def x2 : Ix := .s x1
def x3 : Ix := .s x2
def x4 : Ix := .s x3
def x5 : Ix := .s x4
def x6 : Ix := .s x5
def x7 : Ix := .s x6
def x8 : Ix := .s x7
def x9 : Ix := .s x8
def x10 : Ix := .s x9
def x11 : Ix := .s x10
def x12 : Ix := .s x11
def x13 : Ix := .s x12
def x14 : Ix := .s x13
def x15 : Ix := .s x14
def x16 : Ix := .s x15
def x17 : Ix := .s x16
def x18 : Ix := .s x17
def x19 : Ix := .s x18
def x20 : Ix := .s x19
def x21 : Ix := .s x20
def x22 : Ix := .s x21
def x23 : Ix := .s x22
def x24 : Ix := .s x23
def x25 : Ix := .s x24
def x26 : Ix := .s x25
def x27 : Ix := .s x26
def x28 : Ix := .s x27
def x29 : Ix := .s x28
def x30 : Ix := .s x29
def x31 : Ix := .s x30
def x32 : Ix := .s x31
def x33 : Ix := .s x32
def x34 : Ix := .s x33
def x35 : Ix := .s x34
def x36 : Ix := .s x35
def x37 : Ix := .s x36
def x38 : Ix := .s x37
def x39 : Ix := .s x38
def x40 : Ix := .s x39
def x41 : Ix := .s x40
def x42 : Ix := .s x41
def x43 : Ix := .s x42
def x44 : Ix := .s x43
def x45 : Ix := .s x44
def x46 : Ix := .s x45
def x47 : Ix := .s x46
def x48 : Ix := .s x47
def x49 : Ix := .s x48
def x50 : Ix := .s x49
def x51 : Ix := .s x50
def x52 : Ix := .s x51
def x53 : Ix := .s x52
def x54 : Ix := .s x53
def x55 : Ix := .s x54
def x56 : Ix := .s x55
def x57 : Ix := .s x56
def x58 : Ix := .s x57
def x59 : Ix := .s x58
def x60 : Ix := .s x59
def c3 : CFn := ⟨[some q60],(.seq (.reg (.gen ⟨(.slot q),.box (.t q60),none⟩
  (.sm q1 (.k (.bool false))
  .fin)))
 (.seq (.regc (.pca q5 []
  (.gen ⟨.push,.un .not (.l x0),none⟩
  .fin)) (.l x0) (.seq (.reg (.sm q1 (.k (.bool false))
  .fin))
 .ret) .skip)
 (.seq (.reg (.sm q0 (.k .pnil)
  .fin))
 (.seq (.reg (.pfa 0 (.t q)
  (.pld false 1 (.l x0)
  (.pca q6 [(.t q0),(.l x0)]
  (.pex (.l x0) 0
  (.pex (.l x1) 1
  (.gen ⟨(.slot q2),.box (.k (.agg [.snil])),none⟩
  (.st 1 (.t q2) (.l x1)
  (.sm q6 (.l x0)
  .fin)))))))))
 (.seq (.reg (.pfa 0 (.t q)
  (.pld false 1 (.l x0)
  (.pca q7 [(.t q0),(.l x0)]
  (.pex (.l x0) 0
  (.pex (.l x1) 1
  (.gen ⟨(.slot q3),.box (.k (.agg [(.int .i64 0),(.int .i64 0),(.int .i64 0),.snil])),none⟩
  (.st 4 (.t q3) (.l x1)
  (.sm q7 (.l x0)
  .fin)))))))))
 (.seq (.reg (.pfa 0 (.t q)
  (.pld false 1 (.l x0)
  (.pfa 1 (.t q)
  (.pld false 1 (.l x0)
  (.pca q01 [(.t q0),(.l x2),(.l x0)]
  (.pex (.l x0) 0
  (.pex (.l x1) 1
  (.sm q00 (.l x1)
  (.sm q10 (.l x0)
  .fin))))))))))
 (.seq (.reg (.pfa 0 (.t q)
  (.pld false 1 (.l x0)
  (.pfa 1 (.t q)
  (.pld false 1 (.l x0)
  (.pca q11 [(.t q0),(.l x2),(.l x0)]
  (.pex (.l x0) 0
  (.pex (.l x1) 1
  (.gen ⟨(.slot q4),.box (.k (.agg [(.bool false),.snil,(.bool false),.snil])),none⟩
  (.st 4 (.t q4) (.l x1)
  (.sm q20 (.l x0)
  .fin)))))))))))
 (.seq (.reg (.pfa 0 (.t q)
  (.pld false 1 (.l x0)
  (.pfa 1 (.t q)
  (.pld false 1 (.l x0)
  (.pfa 2 (.t q)
  (.pld false 1 (.l x0)
  (.pca q21 [(.t q0),(.l x4),(.l x2),(.l x0)]
  (.pex (.l x0) 0
  (.pex (.l x1) 1
  (.gen ⟨(.slot q5),.box (.k (.agg [(.int .i64 0),.snil])),none⟩
  (.st 2 (.t q5) (.l x1)
  (.sm q30 (.l x0)
  .fin)))))))))))))
 (.seq (.reg (.pfa 0 (.t q)
  (.pld false 1 (.l x0)
  (.pfa 1 (.t q)
  (.pld false 1 (.l x0)
  (.pca q31 [(.t q0),(.l x2),(.l x0)]
  (.pex (.l x0) 0
  (.pex (.l x1) 1
  (.sm q40 (.l x1)
  (.sm q50 (.l x0)
  .fin))))))))))
 (.seq (.regc (.pb .neq (.t q6) (.k (.int .i64 1))
  (.gen ⟨.push,.move (.t q7),some ((.l x0),false)⟩
  (.gen ⟨.push,.bin .neq (.l x0) (.k (.int .i64 1)),some ((.l x1),false)⟩
  (.gen ⟨.push,.pick (.l x2) (.k (.bool true)) (.l x0),none⟩
  (.gen ⟨.push,.move (.t q10),some ((.l x0),false)⟩
  (.gen ⟨.push,.bin .neq (.l x0) (.k (.int .i64 1)),some ((.l x1),false)⟩
  (.gen ⟨.push,.pick (.l x2) (.k (.bool true)) (.l x0),none⟩
  (.gen ⟨.push,.move (.t q20),some ((.l x0),false)⟩
  (.gen ⟨.push,.bin .neq (.l x0) (.k (.int .i64 1)),some ((.l x1),false)⟩
  (.gen ⟨.push,.pick (.l x2) (.k (.bool true)) (.l x0),none⟩
  (.gen ⟨.push,.move (.t q30),some ((.l x0),false)⟩
  (.gen ⟨.push,.bin .neq (.l x0) (.k (.int .i64 1)),some ((.l x1),false)⟩
  (.gen ⟨.push,.pick (.l x2) (.k (.bool true)) (.l x0),none⟩
  (.gen ⟨.push,.move (.t q50),some ((.l x0),false)⟩
  (.gen ⟨.push,.bin .neq (.l x0) (.k (.int .i64 1)),some ((.l x1),false)⟩
  (.gen ⟨.push,.pick (.l x2) (.k (.bool true)) (.l x0),none⟩
  .fin)))))))))))))))) (.l x0) (.seq (.reg (.sm q1 (.k (.bool false))
  .fin))
 .ret) .skip)
 (.seq (.reg (.pca q41 [(.t q0)]
  (.pb .eql (.l x0) (.k (.int .i64 0))
  (.gen ⟨.push,.move (.t q0),some ((.l x0),true)⟩
  (.gen ⟨.push,.call q51 [(.l x0)],some ((.l x1),true)⟩
  (.gen ⟨.push,.len (.l x0),some ((.l x2),true)⟩
  (.gen ⟨.push,.bin .eql (.l x0) (.k (.int .i64 0)),some ((.l x3),true)⟩
  (.gen ⟨.push,.pick (.l x4) (.l x0) (.k (.bool false)),none⟩
  (.gen ⟨.push,.move (.t q0),some ((.l x0),true)⟩
  (.gen ⟨.push,.call q61 [(.l x0)],some ((.l x1),true)⟩
  (.gen ⟨.push,.build [(.int .i64 0),(.int .i64 0),(.int .i64 0)] [],some ((.l x2),true)⟩
  (.gen ⟨.push,.eqs false [0, 1, 2] (.l x1) (.l x0),some ((.l x3),true)⟩
  (.gen ⟨.push,.pick (.l x4) (.l x0) (.k (.bool false)),none⟩
  (.gen ⟨.push,.faddr 0 (.t q2),some ((.l x0),true)⟩
  (.gen ⟨.push,.load false 1 (.l x0),some ((.l x1),true)⟩
  (.gen ⟨.push,.len (.l x0),some ((.l x2),true)⟩
  (.gen ⟨.push,.bin .eql (.l x0) (.k (.int .i64 0)),some ((.l x3),true)⟩
  (.gen ⟨.push,.pick (.l x4) (.l x0) (.k (.bool false)),none⟩
  (.gen ⟨.push,.load true 4 (.t q3),some ((.l x0),true)⟩
  (.gen ⟨.push,.build [(.int .i64 0),(.int .i64 0),(.int .i64 0),.snil] [],some ((.l x1),true)⟩
  (.gen ⟨.push,.call q71 [(.l x1),(.l x0)],some ((.l x2),true)⟩
  (.gen ⟨.push,.pick (.l x3) (.l x0) (.k (.bool false)),none⟩
  (.gen ⟨.push,.move (.t q00),some ((.l x0),true)⟩
  (.gen ⟨.push,.len (.l x0),some ((.l x1),true)⟩
  (.gen ⟨.push,.bin .eql (.l x0) (.k (.int .i64 0)),some ((.l x2),true)⟩
  (.gen ⟨.push,.pick (.l x3) (.l x0) (.k (.bool false)),none⟩
  (.gen ⟨.push,.load true 4 (.t q4),some ((.l x0),true)⟩
  (.gen ⟨.push,.build [(.bool false),.snil,(.bool false),.snil] [],some ((.l x1),true)⟩
  (.gen ⟨.push,.call q02 [(.l x1),(.l x0)],some ((.l x2),true)⟩
  (.gen ⟨.push,.pick (.l x3) (.l x0) (.k (.bool false)),none⟩
  (.gen ⟨.push,.load true 2 (.t q5),some ((.l x0),true)⟩
  (.gen ⟨.push,.build [(.int .i64 0),.snil] [],some ((.l x1),true)⟩
  (.gen ⟨.push,.call q12 [(.l x1),(.l x0)],some ((.l x2),true)⟩
  (.gen ⟨.push,.pick (.l x3) (.l x0) (.k (.bool false)),none⟩
  (.gen ⟨.push,.move (.t q40),some ((.l x0),true)⟩
  (.gen ⟨.push,.bin .eql (.l x0) (.k (.int .i64 0)),some ((.l x1),true)⟩
  (.gen ⟨.push,.pick (.l x2) (.l x0) (.k (.bool false)),none⟩
  (.sm q1 (.l x0)
  .fin))))))))))))))))))))))))))))))))))))))
 .ret))))))))))),[(q1,none)],[]⟩
def c5 : CFn := ⟨[],(.seq (.reg (.sm q2 (.k (.bool false))
  .fin))
 (.seq (.reg (.gen ⟨.push,.build [(.int .i64 0),(.int .i64 0),(.int .i64 0)] [(0,1,(.k (.int .i64 11))),(1,1,(.k (.int .i64 2))),(2,1,(.k (.int .i64 1)))],none⟩
  (.pca q03 [(.l x0)]
  (.pex (.l x0) 0
  (.pex (.l x1) 1
  (.sm q1 (.l x1)
  (.sm q5 (.l x0)
  .fin)))))))
 (.seq (.regc (.pb .neq (.t q5) (.k (.int .i64 0))
  (.gen ⟨.push,.move (.t q1),some ((.l x0),false)⟩
  (.gen ⟨.push,.cmp 1 .eql (.l x0) (.k .pnil),some ((.l x1),false)⟩
  (.gen ⟨.push,.pick (.l x2) (.k (.bool true)) (.l x0),none⟩
  (.gen ⟨.push,.move (.t q1),some ((.l x0),false)⟩
  (.gen ⟨.push,.call q41 [(.l x0)],some ((.l x1),false)⟩
  (.gen ⟨.push,.bin .neq (.l x0) (.k (.int .i64 1)),some ((.l x2),false)⟩
  (.gen ⟨.push,.pick (.l x3) (.k (.bool true)) (.l x0),none⟩
  .fin)))))))) (.l x0) (.seq (.reg (.sm q2 (.k (.bool false))
  .fin))
 .ret) .skip)
 (.seq (.reg (.pca q01 [(.t q1),(.k (.int .i64 0)),(.k (.int .i64 6))]
  (.pex (.l x0) 0
  (.pex (.l x1) 1
  (.sm q6 (.l x1)
  (.sm q7 (.l x0)
  .fin))))))
 (.seq (.reg (.pca q6 [(.t q1),(.k (.int .i64 0))]
  (.pex (.l x0) 0
  (.pex (.l x1) 1
  (.gen ⟨(.slot q4),.box (.k (.agg [.snil])),none⟩
  (.st 1 (.t q4) (.l x1)
  (.sm q00 (.l x0)
  .fin)))))))
 (.seq (.regd [(⟨(.slot q10),.move (.t q7),none⟩,⟨0,0,0⟩),
  (⟨(.slot q20),.bin .eql (.t q10) (.k (.int .i64 0)),none⟩,⟨0,0,0⟩),
  (⟨(.slot q3),.move (.t q20),none⟩,⟨0,0,0⟩),
  (⟨(.slot q30),.move (.t q00),some ((.t q3),true)⟩,⟨0,0,0⟩),
  (⟨(.slot q40),.bin .eql (.t q30) (.k (.int .i64 0)),some ((.t q3),true)⟩,⟨0,0,0⟩),
  (⟨(.slot q50),.pick (.t q3) (.t q40) (.k (.bool false)),none⟩,⟨0,0,0⟩),
  (⟨(.slot q0),.move (.t q50),none⟩,⟨0,0,0⟩),
  (⟨(.slot q60),.move (.t q6),some ((.t q0),true)⟩,⟨0,0,1⟩),
  (⟨(.slot q70),.bsl 1 1 [(.int .i64 0)] [(0,(.k (.int .i64 2)))],some ((.t q0),true)⟩,⟨2,0,0⟩),
  (⟨(.slot q01),.call q23 [(.t q70)],some ((.t q0),true)⟩,⟨3,0,1⟩),
  (⟨(.slot q11),.call q13 [(.t q60),(.t q01)],some ((.t q0),true)⟩,⟨3,1,2⟩),
  (⟨(.slot q21),.pick (.t q0) (.t q11) (.k (.bool false)),none⟩,⟨0,2,2⟩),
  (⟨(.slot q),.move (.t q21),none⟩,⟨0,2,2⟩),
  (⟨(.slot q31),.faddr 0 (.t q4),some ((.t q),true)⟩,⟨0,2,3⟩),
  (⟨(.slot q41),.load false 1 (.t q31),some ((.t q),true)⟩,⟨1,2,3⟩),
  (⟨(.slot q51),.bsl 1 2 [(.int .i64 0)] [(0,(.k (.int .i64 2))),(1,(.k (.int .i64 1)))],some ((.t q),true)⟩,⟨2,2,2⟩),
  (⟨(.slot q61),.call q43 [(.t q51)],some ((.t q),true)⟩,⟨3,2,3⟩),
  (⟨(.slot q71),.call q33 [(.t q41),(.t q61)],some ((.t q),true)⟩,⟨3,3,4⟩),
  (⟨(.slot q02),.pick (.t q) (.t q71) (.k (.bool false)),none⟩,⟨0,4,4⟩),
  (⟨(.slot q2),.move (.t q02),none⟩,⟨0,4,4⟩)])
 .ret)))))),[(q2,none)],[]⟩
def c6 : CFn := ⟨[some q2,some q3],(.seq (.reg (.gen ⟨(.slot q),.box (.k (.agg [.snil])),none⟩
  (.sm q0 (.k (.int .i64 0))
  .fin)))
 (.seq (.seq (.reg (.pca q53 [(.t q2),(.t q3)]
  (.sm q1 (.l x0)
  .fin)))
 (.regc (.pb .neq (.t q1) (.k (.int .i64 0))
  .fin) (.l x0) (.seq (.reg (.gen ⟨.push,.build [.snil] [],none⟩
  (.st 1 (.t q) (.l x0)
  (.sm q0 (.t q1)
  .fin))))
 .ret) .skip))
 (.seq (.reg (.gen ⟨.push,.nilc (.t q2),none⟩
  (.pfa 9 (.l x0)
  (.pld false 1 (.l x0)
  (.pia 6 (.l x0) (.t q3)
  (.pfa 0 (.l x0)
  (.pfa 0 (.l x0)
  (.pld false 1 (.l x0)
  (.pca q63 [(.l x0)]
  (.gen ⟨.push,.build [.snil] [(0,1,(.l x0))],none⟩
  (.st 1 (.t q) (.l x0)
  (.sm q0 (.k (.int .i64 0))
  .fin))))))))))))
 .ret))),[(q,some (true,1)),(q0,none)],[]⟩
def c7 : CFn := ⟨[some q3,some q4],(.seq (.reg (.gen ⟨(.slot q0),.box (.k (.agg [(.int .i64 0),(.int .i64 0),(.int .i64 0),.snil])),none⟩
  (.sm q1 (.k (.int .i64 0))
  .fin)))
 (.seq (.seq (.reg (.pca q53 [(.t q3),(.t q4)]
  (.sm q2 (.l x0)
  .fin)))
 (.regc (.pb .neq (.t q2) (.k (.int .i64 0))
  .fin) (.l x0) (.seq (.reg (.gen ⟨.push,.build [(.int .i64 0),(.int .i64 0),(.int .i64 0),.snil] [],none⟩
  (.st 4 (.t q0) (.l x0)
  (.sm q1 (.t q2)
  .fin))))
 .ret) .skip))
 (.seq (.reg (.gen ⟨.push,.nilc (.t q3),none⟩
  (.pfa 9 (.l x0)
  (.pld false 1 (.l x0)
  (.pia 6 (.l x0) (.t q4)
  (.pfa 1 (.l x0)
  (.pld true 4 (.l x0)
  (.gen ⟨(.slot q),.box (.k (.agg [(.int .i64 0),(.int .i64 0),(.int .i64 0),.snil])),none⟩
  (.st 4 (.t q) (.l x0)
  .fin)))))))))
 (.seq (.reg (.pfa 1 (.t q)
  (.pfa 2 (.l x0)
  (.pld false 1 (.l x0)
  (.pca q73 [(.l x0)]
  (.pfa 1 (.t q)
  (.pfa 2 (.l x0)
  (.st 1 (.l x0) (.l x2)
  .fin))))))))
 (.seq (.reg (.pld true 4 (.t q)
  (.st 4 (.t q0) (.l x0)
  (.sm q1 (.k (.int .i64 0))
  .fin))))
 .ret))))),[(q0,some (true,4)),(q1,none)],[]⟩
def c8 : CFn := ⟨[some q41,some q42,some q12],(.seq (.reg (.sm q21 (.k .snil)
  (.sm q31 (.k (.int .i64 0))
  .fin)))
 (.seq (.seq (.reg (.pca q53 [(.t q41),(.t q42)]
  (.sm q22 (.l x0)
  .fin)))
 (.regc (.pb .neq (.t q22) (.k (.int .i64 0))
  .fin) (.l x0) (.seq (.reg (.gen ⟨.push,.move (.t q22),none⟩
  (.sm q21 (.k .snil)
  (.sm q31 (.l x0)
  .fin))))
 .ret) .skip))
 (.seq (.regc (.pb .lss (.t q12) (.k (.int .i64 1))
  (.gen ⟨.push,.move (.t q12),some ((.l x0),false)⟩
  (.gen ⟨.push,.bin .gtr (.l x0) (.k (.int .i64 1000)),some ((.l x1),false)⟩
  (.gen ⟨.push,.pick (.l x2) (.k (.bool true)) (.l x0),none⟩
  .fin)))) (.l x0) (.seq (.reg (.sm q21 (.k .snil)
  (.sm q31 (.k (.int .i64 2))
  .fin)))
 .ret) .skip)
 (.seq (.reg (.pca q04 [(.t q12)]
  (.pex (.l x0) 0
  (.pex (.l x1) 1
  (.sm q02 (.l x1)
  .fin)))))
 (.seq (.regc (.pln (.t q02)
  (.pb .gtr (.l x0) (.k (.int .i64 0))
  (.gen ⟨.push,.move (.t q02),some ((.l x0),true)⟩
  (.gen ⟨.push,.move (.t q02),some ((.l x1),true)⟩
  (.gen ⟨.push,.len (.l x0),some ((.l x2),true)⟩
  (.gen ⟨.push,.bin .sub (.l x0) (.k (.int .i64 1)),some ((.l x3),true)⟩
  (.gen ⟨.push,.iaddr 2 (.l x3) (.l x0),some ((.l x4),true)⟩
  (.gen ⟨.push,.faddr 0 (.l x0),some ((.l x5),true)⟩
  (.gen ⟨.push,.load false 1 (.l x0),some ((.l x6),true)⟩
  (.gen ⟨.push,.bin .gtr (.l x0) (.k (.int .i64 128)),some ((.l x7),true)⟩
  (.gen ⟨.push,.pick (.l x8) (.l x0) (.k (.bool false)),none⟩
  .fin))))))))))) (.l x0) (.seq (.reg (.sm q21 (.k .snil)
  (.sm q31 (.k (.int .i64 7))
  .fin)))
 .ret) .skip)
 (.seq (.reg (.gen ⟨.push,.nilc (.t q41),none⟩
  (.pfa 9 (.l x0)
  (.pld false 1 (.l x0)
  (.pia 6 (.l x0) (.t q42)
  (.pld true 6 (.l x0)
  (.gen ⟨(.slot q3),.box (.k (.agg [.snil,(.int .i64 0),(.int .i64 0),(.int .i64 0),.snil,.snil])),none⟩
  (.st 6 (.t q3) (.l x0)
  .fin))))))))
 (.seq (.regd [(⟨(.slot q52),.faddr 0 (.t q3),none⟩,⟨0,0,1⟩),
  (⟨(.slot q62),.load true 1 (.t q52),none⟩,⟨1,0,1⟩),
  (⟨(.slot q72),.call q24 [(.k (.int .i64 1))],none⟩,⟨3,0,1⟩),
  (⟨(.slot q03),.bsl 4 1 [(.bool false),.snil,(.bool false),.snil] [(0,(.t q72))],none⟩,⟨2,1,1⟩),
  (⟨(.slot q13),.call q14 [(.t q62),(.t q03)],none⟩,⟨3,1,2⟩),
  (⟨(.slot q32),.move (.t q13),none⟩,⟨0,2,2⟩),
  (⟨(.slot q23),.extract (.t q32) 0,none⟩,⟨0,2,2⟩),
  (⟨(.slot q33),.extract (.t q32) 1,none⟩,⟨0,2,2⟩),
  (⟨(.slot q4),.move (.t q23),none⟩,⟨0,2,2⟩),
  (⟨(.slot q51),.move (.t q33),none⟩,⟨0,2,2⟩)])
 (.seq (.seq (.reg (.sm q61 (.t q02)
  (.gen ⟨(.slot q71),.len (.t q61),none⟩
  (.sm q0 (.k (.int .i64 0))
  .fin))))
 (.block 0 (.loop (.seq (.regc (.pb .lss (.t q0) (.t q71)
  .fin) (.l x0) .skip (.exit 0))
 (.seq (.block 1 (.seq (.reg (.pia 2 (.t q61) (.t q0)
  (.pld true 2 (.l x0)
  (.gen ⟨(.slot q),.box (.k (.agg [(.int .i64 0),(.int .i64 0)])),none⟩
  (.st 2 (.t q) (.l x0)
  .fin)))))
 (.seq (.reg (.pld true 6 (.t q3)
  (.pfa 0 (.t q)
  (.pld false 1 (.l x0)
  (.pfa 1 (.t q)
  (.pld false 1 (.l x0)
  (.pca q34 [(.t q41),(.l x4),(.l x2),(.l x0)]
  (.pex (.l x0) 0
  (.pex (.l x1) 1
  (.sm q5 (.l x1)
  (.sm q1 (.l x0)
  .fin)))))))))))
 (.seq (.regc (.pb .neq (.t q1) (.k (.int .i64 0))
  .fin) (.l x0) (.seq (.reg (.gen ⟨.push,.move (.t q1),none⟩
  (.sm q21 (.k .snil)
  (.sm q31 (.l x0)
  .fin))))
 .ret) .skip)
 (.regd [(⟨(.slot q6),.faddr 0 (.t q3),none⟩,⟨0,0,0⟩),
  (⟨(.slot q7),.load true 1 (.t q6),none⟩,⟨1,0,0⟩),
  (⟨(.slot q00),.move (.t q4),none⟩,⟨0,0,0⟩),
  (⟨(.slot q10),.move (.t q5),none⟩,⟨0,0,0⟩),
  (⟨(.slot q20),.faddr 1 (.t q),none⟩,⟨0,0,0⟩),
  (⟨(.slot q30),.load false 1 (.t q20),none⟩,⟨1,0,0⟩),
  (⟨(.slot q40),.bin .sub (.t q30) (.k (.int .i64 1)),none⟩,⟨0,0,0⟩),
  (⟨(.slot q50),.iaddr 1 (.t q10) (.t q40),none⟩,⟨0,0,0⟩),
  (⟨(.slot q60),.load false 1 (.t q50),none⟩,⟨1,0,0⟩),
  (⟨(.slot q70),.call q44 [(.t q7),(.t q00),(.t q60)],none⟩,⟨3,0,1⟩),
  (⟨(.slot q2),.move (.t q70),none⟩,⟨0,1,1⟩),
  (⟨(.slot q01),.extract (.t q2) 0,none⟩,⟨0,1,1⟩),
  (⟨(.slot q11),.extract (.t q2) 1,none⟩,⟨0,1,1⟩),
  (⟨(.slot q4),.move (.t q01),none⟩,⟨0,1,1⟩),
  (⟨(.slot q51),.move (.t q11),none⟩,⟨0,1,1⟩)])))))
 (.reg (.pb .add (.t q0) (.k (.int .i64 1))
  (.sm q0 (.l x0)
  .fin))))))))
 (.seq (.reg (.gen ⟨.push,.move (.t q51),none⟩
  (.sm q21 (.t q4)
  (.sm q31 (.l x0)
  .fin))))
 .ret))))))))),[(q21,none),(q31,none)],[]⟩
def c9 : CFn := ⟨[some q2,some q3,some q5],(.seq (.reg (.gen ⟨(.slot q),.box (.k (.agg [(.bool false),.snil,(.bool false),.snil])),none⟩
  (.sm q0 (.k (.int .i64 0))
  .fin)))
 (.seq (.reg (.pca q01 [(.t q2),(.t q3),(.t q5)]
  (.pex (.l x0) 0
  (.pex (.l x1) 1
  (.sm q4 (.l x1)
  (.sm q1 (.l x0)
  .fin))))))
 (.seq (.regc (.pb .neq (.t q1) (.k (.int .i64 0))
  .fin) (.l x0) (.seq (.reg (.gen ⟨.push,.build [(.bool false),.snil,(.bool false),.snil] [],none⟩
  (.st 4 (.t q) (.l x0)
  (.sm q0 (.t q1)
  .fin))))
 .ret) .skip)
 (.seq (.reg (.gen ⟨.push,.nilc (.t q2),none⟩
  (.pfa 9 (.l x0)
  (.pld false 1 (.l x0)
  (.pia 6 (.l x0) (.t q3)
  (.pfa 0 (.l x0)
  (.pld true 1 (.l x0)
  (.pca q54 [(.l x0),(.t q4)]
  (.pex (.l x0) 0
  (.pex (.l x1) 1
  (.st 4 (.t q) (.l x1)
  (.sm q0 (.l x0)
  .fin))))))))))))
 .ret)))),[(q,some (true,4)),(q0,none)],[]⟩
def c10 : CFn := ⟨[some q71,some q12,some q51,some q21],(.seq (.reg (.gen ⟨(.slot q01),.box (.k (.agg [(.int .i64 0),.snil])),none⟩
  (.sm q11 (.k (.int .i64 0))
  .fin)))
 (.seq (.seq (.reg (.pca q53 [(.t q71),(.t q12)]
  (.sm q02 (.l x0)
  .fin)))
 (.regc (.pb .neq (.t q02) (.k (.int .i64 0))
  .fin) (.l x0) (.seq (.reg (.gen ⟨.push,.build [(.int .i64 0),.snil] [],none⟩
  (.st 2 (.t q01) (.l x0)
  (.sm q11 (.t q02)
  .fin))))
 .ret) .skip))
 (.seq (.reg (.gen ⟨.push,.nilc (.t q71),none⟩
  (.pfa 9 (.l x0)
  (.pld false 1 (.l x0)
  (.pia 6 (.l x0) (.t q12)
  (.pld true 6 (.l x0)
  (.gen ⟨(.slot q4),.box (.k (.agg [.snil,(.int .i64 0),(.int .i64 0),(.int .i64 0),.snil,.snil])),none⟩
  (.st 6 (.t q4) (.l x0)
  .fin))))))))
 (.seq (.regc (.pb .lss (.t q51) (.k (.int .i64 0))
  (.gen ⟨.push,.move (.t q51),some ((.l x0),false)⟩
  (.gen ⟨.push,.faddr 0 (.t q4),some ((.l x1),false)⟩
  (.gen ⟨.push,.faddr 0 (.l x0),some ((.l x2),false)⟩
  (.gen ⟨.push,.load false 1 (.l x0),some ((.l x3),false)⟩
  (.gen ⟨.push,.call q64 [(.l x0)],some ((.l x4),false)⟩
  (.gen ⟨.push,.bin .geq (.l x4) (.l x0),some ((.l x5),false)⟩
  (.gen ⟨.push,.pick (.l x6) (.k (.bool true)) (.l x0),none⟩
  (.gen ⟨.push,.move (.t q21),some ((.l x0),false)⟩
  (.gen ⟨.push,.bin .lss (.l x0) (.k (.int .i64 0)),some ((.l x1),false)⟩
  (.gen ⟨.push,.pick (.l x2) (.k (.bool true)) (.l x0),none⟩
  (.gen ⟨.push,.move (.t q21),some ((.l x0),false)⟩
  (.gen ⟨.push,.bin .gtr (.l x0) (.k (.int .i64 1000)),some ((.l x1),false)⟩
  (.gen ⟨.push,.pick (.l x2) (.k (.bool true)) (.l x0),none⟩
  .fin)))))))))))))) (.l x0) (.seq (.reg (.gen ⟨.push,.build [(.int .i64 0),.snil] [],none⟩
  (.st 2 (.t q01) (.l x0)
  (.sm q11 (.k (.int .i64 2))
  .fin))))
 .ret) .skip)
 (.seq (.seq (.reg (.pb .sub (.t q21) (.k (.int .i64 1))
  (.pca q74 [(.l x0)]
  (.pex (.l x0) 0
  (.pex (.l x1) 1
  (.sm q61 (.l x1)
  .fin))))))
 (.regc (.pln (.t q61)
  (.pb .gtr (.l x0) (.k (.int .i64 0))
  (.gen ⟨.push,.move (.t q61),some ((.l x0),true)⟩
  (.gen ⟨.push,.move (.t q61),some ((.l x1),true)⟩
  (.gen ⟨.push,.len (.l x0),some ((.l x2),true)⟩
  (.gen ⟨.push,.bin .sub (.l x0) (.k (.int .i64 1)),some ((.l x3),true)⟩
  (.gen ⟨.push,.iaddr 1 (.l x3) (.l x0),some ((.l x4),true)⟩
  (.gen ⟨.push,.load false 1 (.l x0),some ((.l x5),true)⟩
  (.gen ⟨.push,.bin .gtr (.l x0) (.k (.int .i64 128)),some ((.l x6),true)⟩
  (.gen ⟨.push,.pick (.l x7) (.l x0) (.k (.bool false)),none⟩
  .fin)))))))))) (.l x0) (.seq (.reg (.gen ⟨.push,.build [(.int .i64 0),.snil] [],none⟩
  (.st 2 (.t q01) (.l x0)
  (.sm q11 (.k (.int .i64 7))
  .fin))))
 .ret) .skip))
 (.seq (.reg (.pb .add (.t q51) (.k (.int .i64 1))
  (.gen ⟨.push,.mksl 4 64 [(.bool false),.snil,(.bool false),.snil] (.l x0) (.l x0),none⟩
  (.sm q31 (.l x0)
  .fin))))
 (.seq (.reg (.pca q24 [(.k (.int .i64 1))]
  (.pia 4 (.t q31) (.t q51)
  (.st 4 (.l x0) (.l x1)
  .fin))))
 (.seq (.reg (.pld true 6 (.t q4)
  (.pca q05 [(.t q71),(.l x0),(.t q21)]
  (.sm q41 (.l x0)
  .fin))))
 (.seq (.reg (.gen ⟨.push,.build [(.int .i64 0),.snil] [(0,1,(.t q21))],none⟩
  (.gen ⟨(.slot q0),.box (.k (.agg [(.int .i64 0),.snil])),none⟩
  (.st 2 (.t q0) (.l x0)
  .fin))))
 (.seq (.seq (.reg (.sm q (.k (.int .i64 1))
  .fin))
 (.block 0 (.loop (.seq (.regc (.pb .lss (.t q) (.t q21)
  .fin) (.l x0) .skip (.exit 0))
 (.seq (.block 1 (.seq (.regd [(⟨(.slot q6),.faddr 0 (.t q4),none⟩,⟨0,0,0⟩),
  (⟨(.slot q7),.load true 1 (.t q6),none⟩,⟨1,0,0⟩),
  (⟨(.slot q00),.move (.t q31),none⟩,⟨0,0,0⟩),
  (⟨(.slot q10),.move (.t q41),none⟩,⟨0,0,0⟩),
  (⟨(.slot q20),.move (.t q),none⟩,⟨0,0,0⟩),
  (⟨(.slot q30),.iaddr 1 (.t q10) (.t q20),none⟩,⟨0,0,0⟩),
  (⟨(.slot q40),.load false 1 (.t q30),none⟩,⟨1,0,0⟩),
  (⟨(.slot q50),.call q44 [(.t q7),(.t q00),(.t q40)],none⟩,⟨3,0,1⟩),
  (⟨(.slot q3),.move (.t q50),none⟩,⟨0,1,1⟩),
  (⟨(.slot q60),.extract (.t q3) 0,none⟩,⟨0,1,1⟩),
  (⟨(.slot q70),.extract (.t q3) 1,none⟩,⟨0,1,1⟩),
  (⟨(.slot q5),.move (.t q60),none⟩,⟨0,1,1⟩),
  (⟨.drop,.move (.t q70),none⟩,⟨0,1,1⟩)])
 (.seq (.reg (.pfa 0 (.t q4)
  (.pld true 1 (.l x0)
  (.pca q54 [(.l x0),(.t q5)]
  (.pex (.l x0) 0
  (.pex (.l x1) 1
  (.gen ⟨(.slot q1),.box (.k (.agg [(.bool false),.snil,(.bool false),.snil])),none⟩
  (.st 4 (.t q1) (.l x1)
  (.sm q2 (.l x0)
  .fin)))))))))
 (.seq (.regc (.pb .neq (.t q2) (.k (.int .i64 0))
  .fin) (.l x0) (.seq (.reg (.gen ⟨.push,.build [(.int .i64 0),.snil] [],none⟩
  (.st 2 (.t q01) (.l x0)
  (.sm q11 (.t q2)
  .fin))))
 .ret) .skip)
 (.seq (.regc (.pfa 1 (.t q0)
  (.pld false 1 (.l x0)
  (.pln (.l x0)
  (.pb .eql (.l x0) (.k (.int .i64 0))
  (.gen ⟨.push,.load true 4 (.t q1),some ((.l x0),true)⟩
  (.gen ⟨.push,.call q15 [(.l x0)],some ((.l x1),true)⟩
  (.gen ⟨.push,.bin .neq (.l x0) (.k (.int .i64 0)),some ((.l x2),true)⟩
  (.gen ⟨.push,.pick (.l x3) (.l x0) (.k (.bool false)),none⟩
  .fin)))))))) (.l x0) (.reg (.pfa 0 (.t q0)
  (.st 1 (.l x0) (.t q)
  .fin))) .skip)
 (.regc (.pfa 0 (.t q0)
  (.pld false 1 (.l x0)
  (.pb .geq (.t q) (.l x0)
  .fin))) (.l x0) (.reg (.pfa 1 (.t q0)
  (.pld false 1 (.l x0)
  (.pld true 4 (.t q1)
  (.gen ⟨.push,.bsl 4 1 [(.bool false),.snil,(.bool false),.snil] [(0,(.l x0))],none⟩
  (.gen ⟨.push,.append 4 64 (.l x2) (.l x0),none⟩
  (.pfa 1 (.t q0)
  (.st 1 (.l x0) (.l x1)
  .fin)))))))) .skip))))))
 (.reg (.pb .add (.t q) (.k (.int .i64 1))
  (.sm q (.l x0)
  .fin))))))))
 (.seq (.reg (.pld true 2 (.t q0)
  (.st 2 (.t q01) (.l x0)
  (.sm q11 (.k (.int .i64 0))
  .fin))))
 .ret))))))))))),[(q01,some (true,2)),(q11,none)],[]⟩
def c11 : CFn := ⟨[some q1,some q5,some q6],(.seq (.reg (.sm q (.k (.int .i64 0))
  (.sm q0 (.k (.int .i64 0))
  .fin)))
 (.seq (.seq (.reg (.pca q53 [(.t q1),(.t q5)]
  (.sm q2 (.l x0)
  .fin)))
 (.regc (.pb .neq (.t q2) (.k (.int .i64 0))
  .fin) (.l x0) (.seq (.reg (.gen ⟨.push,.move (.t q2),none⟩
  (.sm q (.k (.int .i64 0))
  (.sm q0 (.l x0)
  .fin))))
 .ret) .skip))
 (.seq (.regc (.gen ⟨.push,.nilc (.t q1),none⟩
  (.pfa 0 (.l x0)
  (.pfa 2 (.l x0)
  (.pld false 1 (.l x0)
  (.pb .neq (.l x0) (.k (.int .i64 1))
  .fin))))) (.l x0) (.seq (.reg (.sm q (.k (.int .i64 0))
  (.sm q0 (.k (.int .i64 15))
  .fin)))
 .ret) .skip)
 (.seq (.seq (.reg (.gen ⟨.push,.nilc (.t q1),none⟩
  (.pfa 0 (.l x0)
  (.pfa 0 (.l x0)
  (.pld false 1 (.l x0)
  (.pca q25 [(.l x0),(.t q6)]
  (.pex (.l x0) 0
  (.pex (.l x1) 1
  (.gen ⟨.push,.box (.k (.agg [(.int .i64 0),(.int .i64 0),(.int .i64 0),(.int .i64 0)])),none⟩
  (.st 4 (.l x0) (.l x2)
  (.sm q3 (.l x1)
  .fin)))))))))))
 (.regc (.pb .neq (.t q3) (.k (.int .i64 0))
  .fin) (.l x0) (.seq (.reg (.gen ⟨.push,.move (.t q3),none⟩
  (.sm q (.k (.int .i64 0))
  (.sm q0 (.l x0)
  .fin))))
 .ret) .skip))
 (.seq (.regd [(⟨(.slot q7),.move (.t q1),none⟩,⟨0,0,0⟩),
  (⟨(.slot q00),.nilc (.t q7),none⟩,⟨0,0,0⟩),
  (⟨(.slot q10),.faddr 3 (.t q00),none⟩,⟨0,0,0⟩),
  (⟨(.slot q20),.load false 1 (.t q10),none⟩,⟨1,0,0⟩),
  (⟨(.slot q30),.move (.t q6),none⟩,⟨0,0,0⟩),
  (⟨(.slot q40),.move (.t q1),none⟩,⟨0,0,0⟩),
  (⟨(.slot q50),.nilc (.t q40),none⟩,⟨0,0,0⟩),
  (⟨(.slot q60),.faddr 9 (.t q50),none⟩,⟨0,0,0⟩),
  (⟨(.slot q70),.load false 1 (.t q60),none⟩,⟨1,0,0⟩),
  (⟨(.slot q01),.move (.t q5),none⟩,⟨0,0,0⟩),
  (⟨(.slot q11),.iaddr 6 (.t q70) (.t q01),none⟩,⟨0,0,0⟩),
  (⟨(.slot q21),.faddr 1 (.t q11),none⟩,⟨0,0,0⟩),
  (⟨(.slot q31),.load true 4 (.t q21),none⟩,⟨1,0,0⟩),
  (⟨(.slot q4),.call q35 [(.t q20),(.t q30),(.t q31)],none⟩,⟨3,0,1⟩),
  (⟨(.slot q41),.extract (.t q4) 0,none⟩,⟨0,1,1⟩),
  (⟨(.slot q51),.extract (.t q4) 1,none⟩,⟨0,1,1⟩),
  (⟨(.slot q),.move (.t q41),none⟩,⟨0,1,1⟩),
  (⟨(.slot q0),.move (.t q51),none⟩,⟨0,1,1⟩)])
 .ret))))),[(q,none),(q0,none)],[]⟩
def c12 : CFn := ⟨[some q0],(.seq (.reg (.sm q (.k (.int .i64 0))
  .fin))
 (.seq (.regc (.gen ⟨.push,.cmp 1 .eql (.t q0) (.k .pnil),none⟩
  .fin) (.l x0) (.seq (.reg (.sm q (.k (.int .i64 0))
  .fin))
 .ret) .skip)
 (.seq (.reg (.gen ⟨.push,.nilc (.t q0),none⟩
  (.pfa 9 (.l x0)
  (.pld false 1 (.l x0)
  (.pln (.l x0)
  (.sm q (.l x0)
  .fin))))))
 .ret))),[(q,none)],[]⟩
def c13 : CFn := ⟨[some q5],(.seq (.reg (.sm q4 (.k .snil)
  .fin))
 (.seq (.regc (.gen ⟨.push,.cmp 1 .eql (.t q5) (.k .pnil),none⟩
  .fin) (.l x0) (.seq (.reg (.sm q4 (.k .snil)
  .fin))
 .ret) .skip)
 (.seq (.reg (.sm q1 (.k .snil)
  .fin))
 (.seq (.seq (.reg (.gen ⟨.push,.nilc (.t q5),none⟩
  (.pfa 8 (.l x0)
  (.gen ⟨(.slot q2),.load false 1 (.l x0),none⟩
  (.gen ⟨(.slot q3),.len (.t q2),none⟩
  (.sm q (.k (.int .i64 0))
  .fin))))))
 (.block 0 (.loop (.seq (.regc (.pb .lss (.t q) (.t q3)
  .fin) (.l x0) .skip (.exit 0))
 (.seq (.block 1 (.seq (.reg (.pia 2 (.t q2) (.t q)
  (.pld true 2 (.l x0)
  (.gen ⟨(.slot q0),.box (.k (.agg [(.bool false),.snil])),none⟩
  (.st 2 (.t q0) (.l x0)
  .fin)))))
 (.reg (.pld true 2 (.t q0)
  (.pca q45 [(.l x0)]
  (.gen ⟨.push,.bsl 2 1 [(.bool false),.snil] [(0,(.l x0))],none⟩
  (.gen ⟨.push,.append 2 32 (.t q1) (.l x0),none⟩
  (.sm q1 (.l x0)
  .fin))))))))
 (.reg (.pb .add (.t q) (.k (.int .i64 1))
  (.sm q (.l x0)
  .fin))))))))
 (.seq (.reg (.sm q4 (.t q1)
  .fin))
 .ret))))),[(q4,none)],[]⟩
def c14 : CFn := ⟨[some q0],(.seq (.reg (.gen ⟨(.slot q),.box (.k (.agg [(.int .i64 0),(.int .i64 0),(.int .i64 0)])),none⟩
  .fin))
 (.seq (.regc (.gen ⟨.push,.cmp 1 .eql (.t q0) (.k .pnil),none⟩
  .fin) (.l x0) (.seq (.reg (.gen ⟨.push,.build [(.int .i64 0),(.int .i64 0),(.int .i64 0)] [],none⟩
  (.st 3 (.t q) (.l x0)
  .fin)))
 .ret) .skip)
 (.seq (.reg (.gen ⟨.push,.nilc (.t q0),none⟩
  (.pfa 0 (.l x0)
  (.pld true 3 (.l x0)
  (.st 3 (.t q) (.l x0)
  .fin)))))
 .ret))),[(q,some (true,3))],[]⟩
def c15 : CFn := ⟨[some q2,some q3],(.seq (.reg (.gen ⟨(.slot q),.box (.t q2),none⟩
  (.gen ⟨(.slot q0),.box (.t q3),none⟩
  (.sm q1 (.k (.bool false))
  .fin))))
 (.seq (.reg (.pfa 0 (.t q)
  (.pld false 1 (.l x0)
  (.pfa 0 (.t q0)
  (.pld false 1 (.l x0)
  (.pb .eql (.l x2) (.l x0)
  (.gen ⟨.push,.faddr 1 (.t q),some ((.l x0),true)⟩
  (.gen ⟨.push,.load true 3 (.l x0),some ((.l x1),true)⟩
  (.gen ⟨.push,.faddr 1 (.t q0),some ((.l x2),true)⟩
  (.gen ⟨.push,.load true 3 (.l x0),some ((.l x3),true)⟩
  (.gen ⟨.push,.call q55 [(.l x2),(.l x0)],some ((.l x4),true)⟩
  (.gen ⟨.push,.pick (.l x5) (.l x0) (.k (.bool false)),none⟩
  (.sm q1 (.l x0)
  .fin)))))))))))))
 .ret)),[(q1,none)],[]⟩
def c16 : CFn := ⟨[some q2,some q3],(.seq (.reg (.gen ⟨(.slot q),.box (.t q2),none⟩
  (.gen ⟨(.slot q0),.box (.t q3),none⟩
  (.sm q1 (.k (.bool false))
  .fin))))
 (.seq (.reg (.pfa 0 (.t q)
  (.pld true 2 (.l x0)
  (.pfa 0 (.t q0)
  (.pld true 2 (.l x0)
  (.pca q65 [(.l x2),(.l x0)]
  (.gen ⟨.push,.faddr 2 (.t q),some ((.l x0),true)⟩
  (.gen ⟨.push,.load true 2 (.l x0),some ((.l x1),true)⟩
  (.gen ⟨.push,.faddr 2 (.t q0),some ((.l x2),true)⟩
  (.gen ⟨.push,.load true 2 (.l x0),some ((.l x3),true)⟩
  (.gen ⟨.push,.call q65 [(.l x2),(.l x0)],some ((.l x4),true)⟩
  (.gen ⟨.push,.pick (.l x5) (.l x0) (.k (.bool false)),none⟩
  (.sm q1 (.l x0)
  .fin)))))))))))))
 .ret)),[(q1,none)],[]⟩
def c17 : CFn := ⟨[some q2,some q3],(.seq (.reg (.gen ⟨(.slot q),.box (.t q2),none⟩
  (.gen ⟨(.slot q0),.box (.t q3),none⟩
  (.sm q1 (.k (.bool false))
  .fin))))
 (.seq (.reg (.pfa 0 (.t q)
  (.pld false 1 (.l x0)
  (.pfa 0 (.t q0)
  (.pld false 1 (.l x0)
  (.pb .eql (.l x2) (.l x0)
  (.gen ⟨.push,.faddr 1 (.t q),some ((.l x0),true)⟩
  (.gen ⟨.push,.load false 1 (.l x0),some ((.l x1),true)⟩
  (.gen ⟨.push,.faddr 1 (.t q0),some ((.l x2),true)⟩
  (.gen ⟨.push,.load false 1 (.l x0),some ((.l x3),true)⟩
  (.gen ⟨.push,.call q13 [(.l x2),(.l x0)],some ((.l x4),true)⟩
  (.gen ⟨.push,.pick (.l x5) (.l x0) (.k (.bool false)),none⟩
  (.sm q1 (.l x0)
  .fin)))))))))))))
 .ret)),[(q1,none)],[]⟩
def c24 : CFn := ⟨[some q10],(.seq (.reg (.gen ⟨(.slot q4),.box (.t q10),none⟩
  (.sm q0 (.k .pnil)
  (.sm q1 (.k (.int .i64 0))
  .fin))))
 (.seq (.reg (.pld true 3 (.t q4)
  (.pca q07 [(.l x0)]
  (.pex (.l x0) 0
  (.pex (.l x1) 1
  (.sm q5 (.l x1)
  (.sm q (.l x0)
  .fin)))))))
 (.seq (.regc (.pb .neq (.t q) (.k (.int .i64 0))
  .fin) (.l x0) (.seq (.reg (.gen ⟨.push,.move (.t q),none⟩
  (.sm q0 (.k .pnil)
  (.sm q1 (.l x0)
  .fin))))
 .ret) .skip)
 (.seq (.reg (.pca q001 [(.t q5),(.k (.int .i64 1))]
  (.pex (.l x0) 0
  (.pex (.l x1) 1
  (.gen ⟨(.slot q2),.box (.k (.agg [(.int .i64 0),(.int .i64 0),(.int .i64 0),.snil])),none⟩
  (.st 4 (.t q2) (.l x1)
  (.sm q (.l x0)
  .fin)))))))
 (.seq (.regc (.pb .neq (.t q) (.k (.int .i64 0))
  .fin) (.l x0) (.seq (.reg (.gen ⟨.push,.move (.t q),none⟩
  (.sm q0 (.k .pnil)
  (.sm q1 (.l x0)
  .fin))))
 .ret) .skip)
 (.seq (.regc (.pfa 1 (.t q2)
  (.pfa 0 (.l x0)
  (.pld false 1 (.l x0)
  (.pb .gtr (.l x0) (.k (.int .i64 32))
  .fin)))) (.l x0) (.seq (.reg (.sm q0 (.k .pnil)
  (.sm q1 (.k (.int .i64 7))
  .fin)))
 .ret) .skip)
 (.seq (.reg (.pld true 3 (.t q4)
  (.pld true 4 (.t q2)
  (.gen ⟨.push,.build [(.int .i64 0),(.int .i64 0),(.int .i64 0),.pnil,(.int .i64 0),(.int .i64 0),(.int .i64 0),.snil,.snil,.snil] [(0,3,(.l x1)),(3,1,(.t q5)),(4,4,(.l x0))],none⟩
  (.gen ⟨.push,.box (.l x0),none⟩
  (.sm q3 (.l x0)
  .fin))))))
 (.seq (.reg (.pca q101 [(.t q3)]
  (.pex (.l x0) 0
  (.pex (.l x1) 1
  (.pex (.l x2) 2
  (.gen ⟨(.slot q6),.box (.k (.agg [(.int .i64 0),(.int .i64 0),.snil])),none⟩
  (.st 3 (.t q6) (.l x2)
  (.sm q00 (.l x1)
  (.sm q (.l x0)
  .fin)))))))))
 (.seq (.regc (.pb .neq (.t q) (.k (.int .i64 0))
  .fin) (.l x0) (.seq (.reg (.gen ⟨.push,.move (.t q),none⟩
  (.sm q0 (.k .pnil)
  (.sm q1 (.l x0)
  .fin))))
 .ret) .skip)
 (.seq (.seq (.reg (.pld true 3 (.t q6)
  (.pca q201 [(.t q3),(.l x0),(.t q00)]
  (.sm q7 (.l x0)
  .fin))))
 (.regc (.pb .neq (.t q7) (.k (.int .i64 0))
  .fin) (.l x0) (.seq (.reg (.gen ⟨.push,.move (.t q7),none⟩
  (.sm q0 (.k .pnil)
  (.sm q1 (.l x0)
  .fin))))
 .ret) .skip))
 (.seq (.reg (.sm q0 (.t q3)
  (.sm q1 (.k (.int .i64 0))
  .fin)))
 .ret))))))))))),[(q0,none),(q1,none)],[]⟩
def c25 : CFn := ⟨[some q0,some q40],(.seq (.reg (.sm q30 (.k (.bool false))
  .fin))
 (.seq (.regc (.pln (.t q0)
  (.pln (.t q40)
  (.pb .neq (.l x1) (.l x0)
  .fin))) (.l x0) (.seq (.reg (.sm q30 (.k (.bool false))
  .fin))
 .ret) .skip)
 (.seq (.seq (.reg (.sm q (.k (.int .i64 0))
  .fin))
 (.block 0 (.loop (.seq (.regc (.pln (.t q0)
  (.pb .lss (.t q) (.l x0)
  .fin)) (.l x0) .skip (.exit 0))
 (.seq (.block 1 (.seq (.regd [(⟨(.slot q1),.move (.t q0),none⟩,⟨0,0,0⟩),
  (⟨(.slot q2),.move (.t q),none⟩,⟨0,0,0⟩),
  (⟨(.slot q3),.iaddr 4 (.t q1) (.t q2),none⟩,⟨0,0,0⟩),
  (⟨(.slot q4),.load true 4 (.t q3),none⟩,⟨1,0,0⟩),
  (⟨(.slot q5),.move (.t q40),none⟩,⟨0,0,0⟩),
  (⟨(.slot q6),.move (.t q),none⟩,⟨0,0,0⟩),
  (⟨(.slot q7),.iaddr 4 (.t q5) (.t q6),none⟩,⟨0,0,0⟩),
  (⟨(.slot q00),.load true 4 (.t q7),none⟩,⟨1,0,0⟩),
  (⟨(.slot q10),.call q02 [(.t q4),(.t q00)],none⟩,⟨3,0,1⟩),
  (⟨(.slot q20),.un .not (.t q10),none⟩,⟨0,1,1⟩)])
 (.cond (.t q20) (.seq (.reg (.sm q30 (.k (.bool false))
  .fin))
 .ret) .skip)))
 (.reg (.pb .add (.t q) (.k (.int .i64 1))
  (.sm q (.l x0)
  .fin))))))))
 (.seq (.reg (.sm q30 (.k (.bool true))
  .fin))
 .ret)))),[(q30,none)],[]⟩
def c26 : CFn := ⟨[some q1],(.seq (.reg (.sm q2 (.k .snil)
  .fin))
 (.seq (.reg (.sm q0 (.k .snil)
  .fin))
 (.seq (.seq (.reg (.sm q (.k (.int .i64 0))
  .fin))
 (.block 0 (.loop (.seq (.regc (.pln (.t q1)
  (.pb .lss (.t q) (.l x0)
  .fin)) (.l x0) .skip (.exit 0))
 (.seq (.block 1 (.reg (.pia 1 (.t q1) (.t q)
  (.pld false 1 (.l x0)
  (.pca q06 [(.l x0)]
  (.gen ⟨.push,.bsl 4 1 [(.bool false),.snil,(.bool false),.snil] [(0,(.l x0))],none⟩
  (.gen ⟨.push,.append 4 64 (.t q0) (.l x0),none⟩
  (.sm q0 (.l x0)
  .fin))))))))
 (.reg (.pb .add (.t q) (.k (.int .i64 1))
  (.sm q (.l x0)
  .fin))))))))
 (.seq (.reg (.sm q2 (.t q0)
  .fin))
 .ret)))),[(q2,none)],[]⟩
def c27 : CFn := ⟨[some q0,some q40],(.seq (.reg (.sm q30 (.k (.bool false))
  .fin))
 (.seq (.regc (.pln (.t q0)
  (.pln (.t q40)
  (.pb .neq (.l x1) (.l x0)
  .fin))) (.l x0) (.seq (.reg (.sm q30 (.k (.bool false))
  .fin))
 .ret) .skip)
 (.seq (.seq (.reg (.sm q (.k (.int .i64 0))
  .fin))
 (.block 0 (.loop (.seq (.regc (.pln (.t q0)
  (.pb .lss (.t q) (.l x0)
  .fin)) (.l x0) .skip (.exit 0))
 (.seq (.block 1 (.seq (.regd [(⟨(.slot q1),.move (.t q0),none⟩,⟨0,0,0⟩),
  (⟨(.slot q2),.move (.t q),none⟩,⟨0,0,0⟩),
  (⟨(.slot q3),.iaddr 2 (.t q1) (.t q2),none⟩,⟨0,0,0⟩),
  (⟨(.slot q4),.load true 2 (.t q3),none⟩,⟨1,0,0⟩),
  (⟨(.slot q5),.move (.t q40),none⟩,⟨0,0,0⟩),
  (⟨(.slot q6),.move (.t q),none⟩,⟨0,0,0⟩),
  (⟨(.slot q7),.iaddr 2 (.t q5) (.t q6),none⟩,⟨0,0,0⟩),
  (⟨(.slot q00),.load true 2 (.t q7),none⟩,⟨1,0,0⟩),
  (⟨(.slot q10),.call q65 [(.t q4),(.t q00)],none⟩,⟨3,0,1⟩),
  (⟨(.slot q20),.un .not (.t q10),none⟩,⟨0,1,1⟩)])
 (.cond (.t q20) (.seq (.reg (.sm q30 (.k (.bool false))
  .fin))
 .ret) .skip)))
 (.reg (.pb .add (.t q) (.k (.int .i64 1))
  (.sm q (.l x0)
  .fin))))))))
 (.seq (.reg (.sm q30 (.k (.bool true))
  .fin))
 .ret)))),[(q30,none)],[]⟩
def c28 : CFn := ⟨[some q1],(.seq (.reg (.sm q2 (.k .snil)
  .fin))
 (.seq (.reg (.sm q0 (.k .snil)
  .fin))
 (.seq (.seq (.reg (.sm q (.k (.int .i64 0))
  .fin))
 (.block 0 (.loop (.seq (.regc (.pln (.t q1)
  (.pb .lss (.t q) (.l x0)
  .fin)) (.l x0) .skip (.exit 0))
 (.seq (.block 1 (.reg (.pia 1 (.t q1) (.t q)
  (.pld false 1 (.l x0)
  (.pca q301 [(.l x0)]
  (.gen ⟨.push,.bsl 2 1 [(.bool false),.snil] [(0,(.l x0))],none⟩
  (.gen ⟨.push,.append 2 32 (.t q0) (.l x0),none⟩
  (.sm q0 (.l x0)
  .fin))))))))
 (.reg (.pb .add (.t q) (.k (.int .i64 1))
  (.sm q (.l x0)
  .fin))))))))
 (.seq (.reg (.sm q2 (.t q0)
  .fin))
 .ret)))),[(q2,none)],[]⟩
def c29 : CFn := ⟨[some q0,some q1],(.seq (.reg (.sm q (.k (.int .i64 0))
  .fin))
 (.seq (.block 0 (.regc (.gen ⟨.push,.cmp 1 .eql (.t q0) (.k .pnil),none⟩
  .fin) (.l x0) (.seq (.reg (.sm q (.k (.int .i64 1))
  .fin))
 .ret) (.regc (.pb .lss (.t q1) (.k (.int .i64 0))
  (.gen ⟨.push,.move (.t q1),some ((.l x0),false)⟩
  (.gen ⟨.push,.move (.t q0),some ((.l x1),false)⟩
  (.gen ⟨.push,.nilc (.l x0),some ((.l x2),false)⟩
  (.gen ⟨.push,.faddr 9 (.l x0),some ((.l x3),false)⟩
  (.gen ⟨.push,.load false 1 (.l x0),some ((.l x4),false)⟩
  (.gen ⟨.push,.len (.l x0),some ((.l x5),false)⟩
  (.gen ⟨.push,.bin .geq (.l x5) (.l x0),some ((.l x6),false)⟩
  (.gen ⟨.push,.pick (.l x7) (.k (.bool true)) (.l x0),none⟩
  .fin))))))))) (.l x0) (.seq (.reg (.sm q (.k (.int .i64 2))
  .fin))
 .ret) .skip)))
 (.seq (.reg (.sm q (.k (.int .i64 0))
  .fin))
 .ret))),[(q,none)],[]⟩
def c30 : CFn := ⟨[some q6],(.seq (.reg (.sm q5 (.k .snil)
  .fin))
 (.seq (.reg (.pln (.t q6)
  (.gen ⟨.push,.mksl 2 32 [(.bool false),.snil] (.l x0) (.l x0),none⟩
  (.sm q2 (.l x0)
  .fin))))
 (.seq (.seq (.reg (.sm q3 (.t q6)
  (.gen ⟨(.slot q4),.len (.t q3),none⟩
  (.sm q (.k (.int .i64 0))
  .fin))))
 (.block 0 (.loop (.seq (.regc (.pb .lss (.t q) (.t q4)
  .fin) (.l x0) .skip (.exit 0))
 (.seq (.block 1 (.seq (.reg (.gen ⟨.push,.move (.t q),none⟩
  (.pia 2 (.t q3) (.t q)
  (.pld true 2 (.l x0)
  (.gen ⟨(.slot q0),.box (.k (.agg [(.bool false),.snil])),none⟩
  (.sm q1 (.l x2)
  (.st 2 (.t q0) (.l x0)
  .fin)))))))
 (.reg (.pld true 2 (.t q0)
  (.pca q45 [(.l x0)]
  (.pia 2 (.t q2) (.t q1)
  (.st 2 (.l x0) (.l x1)
  .fin)))))))
 (.reg (.pb .add (.t q) (.k (.int .i64 1))
  (.sm q (.l x0)
  .fin))))))))
 (.seq (.reg (.pca q401 [(.t q2)]
  (.sm q5 (.l x0)
  .fin)))
 .ret)))),[(q5,none)],[]⟩
def c32 : CFn := ⟨[some q2],(.seq (.reg (.sm q (.k .snil)
  (.sm q0 (.k (.int .i64 0))
  .fin)))
 (.seq (.regc (.pca q501 [(.t q2)]
  (.gen ⟨.push,.un .not (.l x0),none⟩
  .fin)) (.l x0) (.seq (.reg (.sm q (.k .snil)
  (.sm q0 (.k (.int .i64 2))
  .fin)))
 .ret) .skip)
 (.seq (.reg (.gen ⟨(.slot q1),.box (.k .snil),none⟩
  .fin))
 (.seq (.reg (.gen ⟨.push,.mkfn q701 [(.t q1)],none⟩
  (.pca q601 [(.t q2),(.l x0)]
  .fin)))
 (.seq (.reg (.pld false 1 (.t q1)
  (.sm q (.l x0)
  (.sm q0 (.k (.int .i64 0))
  .fin))))
 .ret))))),[(q,none),(q0,none)],[]⟩
def c33 : CFn := ⟨[some q4,some q5],(.seq (.reg (.gen ⟨(.slot q2),.box (.t q4),none⟩
  (.sm q (.k .snil)
  (.sm q0 (.k (.int .i64 0))
  .fin))))
 (.seq (.reg (.pld true 1 (.t q2)
  (.pca q011 [(.l x0)]
  (.pex (.l x0) 0
  (.pex (.l x1) 1
  (.sm q3 (.l x1)
  (.sm q1 (.l x0)
  .fin)))))))
 (.seq (.regc (.pb .neq (.t q1) (.k (.int .i64 0))
  .fin) (.l x0) (.seq (.reg (.gen ⟨.push,.move (.t q1),none⟩
  (.sm q (.k .snil)
  (.sm q0 (.l x0)
  .fin))))
 .ret) .skip)
 (.seq (.reg (.pca q111 [(.t q3),(.t q5)]
  (.sm q (.l x0)
  (.sm q0 (.k (.int .i64 0))
  .fin))))
 .ret)))),[(q,none),(q0,none)],[]⟩
def c34 : CFn := ⟨[some q0],(.seq (.reg (.gen ⟨(.slot q),.box (.k (.agg [(.bool false),.snil,(.bool false),.snil])),none⟩
  .fin))
 (.seq (.reg (.pca q211 [(.t q0)]
  (.pca q211 [(.k (.int .i64 1))]
  (.gen ⟨.push,.build [(.bool false),.snil,(.bool false),.snil] [(0,2,(.l x1)),(2,2,(.l x0))],none⟩
  (.st 4 (.t q) (.l x0)
  .fin)))))
 .ret)),[(q,some (true,4))],[]⟩
def c35 : CFn := ⟨[some q30,some q23,some q40,some q33],(.seq (.reg (.gen ⟨(.slot q0),.box (.t q23),none⟩
  (.sm q10 (.k .snil)
  (.sm q20 (.k (.int .i64 0))
  .fin))))
 (.seq (.reg (.pld true 6 (.t q0)
  (.pca q311 [(.t q30),(.l x0),(.t q40)]
  (.pex (.l x0) 0
  (.pex (.l x1) 1
  (.sm q6 (.l x1)
  (.sm q50 (.l x0)
  .fin)))))))
 (.seq (.regc (.pb .neq (.t q50) (.k (.int .i64 0))
  .fin) (.l x0) (.seq (.reg (.gen ⟨.push,.move (.t q50),none⟩
  (.sm q10 (.k .snil)
  (.sm q20 (.l x0)
  .fin))))
 .ret) .skip)
 (.seq (.reg (.sm q2 (.k .snil)
  .fin))
 (.seq (.regd [(⟨(.slot q01),.move (.t q40),none⟩,⟨0,0,0⟩),
  (⟨(.slot q11),.call q24 [(.t q01)],none⟩,⟨3,0,1⟩),
  (⟨(.slot q21),.move (.t q30),none⟩,⟨0,0,1⟩),
  (⟨(.slot q31),.nilc (.t q21),none⟩,⟨0,0,1⟩),
  (⟨(.slot q41),.faddr 0 (.t q31),none⟩,⟨0,0,1⟩),
  (⟨(.slot q51),.faddr 1 (.t q41),none⟩,⟨0,0,1⟩),
  (⟨(.slot q61),.load false 1 (.t q51),none⟩,⟨1,0,1⟩),
  (⟨(.slot q71),.bin .sub (.t q61) (.k (.int .i64 1)),none⟩,⟨0,0,1⟩),
  (⟨(.slot q02),.call q411 [(.t q11),(.t q71)],none⟩,⟨3,1,2⟩),
  (⟨(.slot q70),.move (.t q02),none⟩,⟨0,2,2⟩),
  (⟨(.slot q12),.extract (.t q70) 0,none⟩,⟨0,2,2⟩),
  (⟨(.slot q22),.extract (.t q70) 1,none⟩,⟨0,2,3⟩),
  (⟨(.slot q60),.box (.k (.agg [(.bool false),.snil,(.bool false),.snil])),none⟩,⟨2,0,2⟩),
  (⟨.drop,.store 4 (.t q60) (.t q12),none⟩,⟨3,2,3⟩),
  (⟨.drop,.move (.t q22),none⟩,⟨0,3,3⟩)])
 (.seq (.regd [(⟨(.slot q32),.move (.t q30),none⟩,⟨0,0,0⟩),
  (⟨(.slot q42),.move (.t q40),none⟩,⟨0,0,0⟩),
  (⟨(.slot q52),.call q511 [(.t q32),(.t q42)],none⟩,⟨3,0,1⟩),
  (⟨(.slot q62),.call q24 [(.t q52)],none⟩,⟨3,1,2⟩),
  (⟨(.slot q72),.load true 4 (.t q60),none⟩,⟨1,0,2⟩),
  (⟨(.slot q03),.call q75 [(.t q62),(.t q72)],none⟩,⟨3,2,3⟩),
  (⟨(.slot q13),.bsl 4 1 [(.bool false),.snil,(.bool false),.snil] [(0,(.t q03))],none⟩,⟨2,3,3⟩),
  (⟨(.slot q7),.move (.t q13),none⟩,⟨0,3,3⟩)])
 (.seq (.reg (.pca q24 [(.k (.int .i64 1))]
  (.gen ⟨.push,.bsl 4 1 [(.bool false),.snil,(.bool false),.snil] [(0,(.l x0))],none⟩
  (.sm q3 (.k .snil)
  (.sm q (.l x0)
  .fin)))))
 (.seq (.seq (.reg (.sm q00 (.t q33)
  (.sm q1 (.k (.int .i64 0))
  .fin)))
 (.block 0 (.loop (.seq (.regc (.pb .lss (.t q1) (.t q00)
  .fin) (.l x0) .skip (.exit 0))
 (.seq (.block 1 (.seq (.reg (.pfa 0 (.t q0)
  (.pld true 1 (.l x0)
  (.pca q44 [(.l x0),(.t q6),(.t q)]
  (.pex (.l x0) 0
  (.pex (.l x1) 1
  (.sm q4 (.l x1)
  .fin)))))))
 (.seq (.reg (.pfa 0 (.t q0)
  (.pld true 1 (.l x0)
  (.pca q44 [(.l x0),(.t q7),(.t q3)]
  (.pex (.l x0) 0
  (.pex (.l x1) 1
  (.sm q5 (.l x1)
  .fin)))))))
 (.seq (.reg (.sm q3 (.t q)
  .fin))
 (.seq (.reg (.pfa 0 (.t q0)
  (.pld true 1 (.l x0)
  (.pca q611 [(.l x0),(.t q4),(.t q5)]
  (.pex (.l x0) 0
  (.pex (.l x1) 1
  (.sm q (.l x1)
  .fin)))))))
 (.reg (.gen ⟨.push,.bsl 1 1 [.snil] [(0,(.t q))],none⟩
  (.gen ⟨.push,.append 1 24 (.t q2) (.l x0),none⟩
  (.sm q2 (.l x0)
  .fin)))))))))
 (.reg (.pb .add (.t q1) (.k (.int .i64 1))
  (.sm q1 (.l x0)
  .fin))))))))
 (.seq (.reg (.sm q10 (.t q2)
  (.sm q20 (.k (.int .i64 0))
  .fin)))
 .ret))))))))),[(q10,none),(q20,none)],[]⟩
def c36 : CFn := ⟨[some q4,some q5,some q6],(.seq (.reg (.gen ⟨(.slot q2),.box (.t q4),none⟩
  (.sm q (.k .snil)
  (.sm q0 (.k (.int .i64 0))
  .fin))))
 (.seq (.reg (.pld true 1 (.t q2)
  (.pca q011 [(.l x0)]
  (.pex (.l x0) 0
  (.pex (.l x1) 1
  (.sm q3 (.l x1)
  (.sm q1 (.l x0)
  .fin)))))))
 (.seq (.regc (.pb .neq (.t q1) (.k (.int .i64 0))
  .fin) (.l x0) (.seq (.reg (.gen ⟨.push,.move (.t q1),none⟩
  (.sm q (.k .snil)
  (.sm q0 (.l x0)
  .fin))))
 .ret) .skip)
 (.seq (.reg (.pca q711 [(.t q3),(.t q5),(.t q6)]
  (.sm q (.l x0)
  (.sm q0 (.k (.int .i64 0))
  .fin))))
 .ret)))),[(q,none),(q0,none)],[]⟩
def c38 : CFn := ⟨[some q0],(.seq (.reg (.sm q (.k (.int .i64 0))
  .fin))
 (.seq (.reg (.pca q63 [(.t q0)]
  (.pln (.l x0)
  (.pb .sub (.l x0) (.k (.int .i64 1))
  (.sm q (.l x0)
  .fin)))))
 .ret)),[(q,none)],[]⟩
def c39 : CFn := ⟨[some q1],(.seq (.reg (.sm q4 (.k .snil)
  (.sm q5 (.k (.int .i64 0))
  .fin)))
 (.seq (.regc (.pb .gtr (.t q1) (.k (.int .i64 1048576))
  .fin) (.l x0) (.seq (.reg (.sm q4 (.k .snil)
  (.sm q5 (.k (.int .i64 2))
  .fin)))
 .ret) .skip)
 (.seq (.reg (.pb .add (.t q1) (.k (.int .i64 1))
  (.gen ⟨.push,.max [(.l x0),(.k (.int .i64 0))],none⟩
  (.gen ⟨.push,.mksl 1 1 [(.bool false)] (.l x0) (.l x0),none⟩
  (.sm q2 (.l x0)
  .fin)))))
 (.seq (.reg (.sm q3 (.k .snil)
  .fin))
 (.seq (.seq (.reg (.sm q0 (.k (.int .i64 2))
  .fin))
 (.block 0 (.loop (.seq (.regc (.pb .leq (.t q0) (.t q1)
  .fin) (.l x0) .skip (.exit 0))
 (.seq (.block 1 (.seq (.regc (.pia 1 (.t q2) (.t q0)
  (.pld false 1 (.l x0)
  .fin)) (.l x0) (.exit 1) .skip)
 (.seq (.reg (.gen ⟨.push,.bsl 1 1 [(.int .i64 0)] [(0,(.t q0))],none⟩
  (.gen ⟨.push,.append 1 8 (.t q3) (.l x0),none⟩
  (.sm q3 (.l x0)
  .fin))))
 (.seq (.reg (.pb .mul (.t q0) (.t q0)
  (.sm q (.l x0)
  .fin)))
 (.block 2 (.loop (.seq (.regc (.pb .leq (.t q) (.t q1)
  .fin) (.l x0) .skip (.exit 2))
 (.seq (.block 3 (.reg (.pia 1 (.t q2) (.t q)
  (.st 1 (.l x0) (.k (.bool true))
  .fin))))
 (.reg (.pb .add (.t q) (.t q0)
  (.sm q (.l x0)
  .fin)))))))))))
 (.reg (.pb .add (.t q0) (.k (.int .i64 1))
  (.sm q0 (.l x0)
  .fin))))))))
 (.seq (.reg (.sm q4 (.t q3)
  (.sm q5 (.k (.int .i64 0))
  .fin)))
 .ret)))))),[(q4,none),(q5,none)],[]⟩
def c41 : CFn := ⟨[some q00],(.seq (.reg (.gen ⟨(.slot q),.box (.t q00),none⟩
  (.sm q0 (.k (.int .i64 0))
  .fin)))
 (.seq (.regd [(⟨(.slot q1),.faddr 0 (.t q),none⟩,⟨0,0,0⟩),
  (⟨(.slot q2),.load true 2 (.t q1),none⟩,⟨1,0,0⟩),
  (⟨(.slot q3),.call q221 [(.t q2)],none⟩,⟨3,0,1⟩),
  (⟨(.slot q4),.faddr 2 (.t q),none⟩,⟨0,0,1⟩),
  (⟨(.slot q5),.load true 2 (.t q4),none⟩,⟨1,0,1⟩),
  (⟨(.slot q6),.call q221 [(.t q5)],none⟩,⟨3,1,2⟩),
  (⟨(.slot q7),.bin .mul (.t q3) (.t q6),none⟩,⟨0,2,2⟩),
  (⟨(.slot q0),.move (.t q7),none⟩,⟨0,2,2⟩)])
 .ret)),[(q0,none)],[]⟩
def c44 : CFn := ⟨[some q00],(.seq (.reg (.gen ⟨(.slot q),.box (.t q00),none⟩
  (.gen ⟨(.slot q0),.box (.k (.agg [(.bool false),.snil])),none⟩
  .fin)))
 (.seq (.regd [(⟨(.slot q1),.faddr 0 (.t q),none⟩,⟨0,0,2⟩),
  (⟨(.slot q2),.load false 1 (.t q1),none⟩,⟨1,0,2⟩),
  (⟨(.slot q3),.faddr 1 (.t q),none⟩,⟨0,0,0⟩),
  (⟨(.slot q4),.load false 1 (.t q3),none⟩,⟨1,0,0⟩),
  (⟨(.slot q5),.call q231 [(.t q4)],none⟩,⟨3,0,1⟩),
  (⟨(.slot q6),.call q131 [(.t q5)],none⟩,⟨3,1,2⟩),
  (⟨(.slot q7),.call q031 [(.t q2),(.t q6)],none⟩,⟨3,2,3⟩),
  (⟨.drop,.store 2 (.t q0) (.t q7),none⟩,⟨3,3,4⟩)])
 .ret)),[(q0,some (true,2))],[]⟩
def c45 : CFn := ⟨[some q2,some q3],(.seq (.reg (.gen ⟨(.slot q),.box (.t q2),none⟩
  (.gen ⟨(.slot q0),.box (.t q3),none⟩
  (.sm q1 (.k (.bool false))
  .fin))))
 (.seq (.reg (.pfa 0 (.t q)
  (.pld false 1 (.l x0)
  (.pfa 0 (.t q0)
  (.pld false 1 (.l x0)
  (.pb .eql (.l x2) (.l x0)
  (.gen ⟨.push,.faddr 1 (.t q),some ((.l x0),true)⟩
  (.gen ⟨.push,.load false 1 (.l x0),some ((.l x1),true)⟩
  (.gen ⟨.push,.faddr 1 (.t q0),some ((.l x2),true)⟩
  (.gen ⟨.push,.load false 1 (.l x0),some ((.l x3),true)⟩
  (.gen ⟨.push,.bin .eql (.l x2) (.l x0),some ((.l x4),true)⟩
  (.gen ⟨.push,.pick (.l x5) (.l x0) (.k (.bool false)),none⟩
  (.gen ⟨.push,.faddr 2 (.t q),some ((.l x0),true)⟩
  (.gen ⟨.push,.load false 1 (.l x0),some ((.l x1),true)⟩
  (.gen ⟨.push,.faddr 2 (.t q0),some ((.l x2),true)⟩
  (.gen ⟨.push,.load false 1 (.l x0),some ((.l x3),true)⟩
  (.gen ⟨.push,.call q13 [(.l x2),(.l x0)],some ((.l x4),true)⟩
  (.gen ⟨.push,.pick (.l x5) (.l x0) (.k (.bool false)),none⟩
  (.sm q1 (.l x0)
  .fin)))))))))))))))))))
 .ret)),[(q1,none)],[]⟩
def c46 : CFn := ⟨[some q60,some q70],(.seq (.reg (.gen ⟨(.slot q0),.box (.t q60),none⟩
  (.gen ⟨(.slot q50),.box (.t q70),none⟩
  (.sm q40 (.k (.bool false))
  .fin))))
 (.seq (.regc (.pfa 0 (.t q0)
  (.pld false 1 (.l x0)
  (.pfa 0 (.t q50)
  (.pld false 1 (.l x0)
  (.gen ⟨.push,.cmp 0 .neq (.l x2) (.l x0),none⟩
  (.gen ⟨.push,.faddr 1 (.t q0),some ((.l x0),false)⟩
  (.gen ⟨.push,.load false 1 (.l x0),some ((.l x1),false)⟩
  (.gen ⟨.push,.len (.l x0),some ((.l x2),false)⟩
  (.gen ⟨.push,.faddr 1 (.t q50),some ((.l x3),false)⟩
  (.gen ⟨.push,.load false 1 (.l x0),some ((.l x4),false)⟩
  (.gen ⟨.push,.len (.l x0),some ((.l x5),false)⟩
  (.gen ⟨.push,.bin .neq (.l x3) (.l x0),some ((.l x6),false)⟩
  (.gen ⟨.push,.pick (.l x7) (.k (.bool true)) (.l x0),none⟩
  .fin))))))))))))) (.l x0) (.seq (.reg (.sm q40 (.k (.bool false))
  .fin))
 .ret) .skip)
 (.seq (.seq (.reg (.sm q (.k (.int .i64 0))
  .fin))
 (.block 0 (.loop (.seq (.regc (.pfa 1 (.t q0)
  (.pld false 1 (.l x0)
  (.pln (.l x0)
  (.pb .lss (.t q) (.l x0)
  .fin)))) (.l x0) .skip (.exit 0))
 (.seq (.block 1 (.seq (.regd [(⟨(.slot q1),.faddr 1 (.t q0),none⟩,⟨0,0,0⟩),
  (⟨(.slot q2),.load false 1 (.t q1),none⟩,⟨1,0,0⟩),
  (⟨(.slot q3),.move (.t q),none⟩,⟨0,0,0⟩),
  (⟨(.slot q4),.iaddr 1 (.t q2) (.t q3),none⟩,⟨0,0,0⟩),
  (⟨(.slot q5),.load false 1 (.t q4),none⟩,⟨1,0,0⟩),
  (⟨(.slot q6),.faddr 1 (.t q50),none⟩,⟨0,0,0⟩),
  (⟨(.slot q7),.load false 1 (.t q6),none⟩,⟨1,0,0⟩),
  (⟨(.slot q00),.move (.t q),none⟩,⟨0,0,0⟩),
  (⟨(.slot q10),.iaddr 1 (.t q7) (.t q00),none⟩,⟨0,0,0⟩),
  (⟨(.slot q20),.load false 1 (.t q10),none⟩,⟨1,0,0⟩),
  (⟨(.slot q30),.bin .neq (.t q5) (.t q20),none⟩,⟨0,0,0⟩)])
 (.cond (.t q30) (.seq (.reg (.sm q40 (.k (.bool false))
  .fin))
 .ret) .skip)))
 (.reg (.pb .add (.t q) (.k (.int .i64 1))
  (.sm q (.l x0)
  .fin))))))))
 (.seq (.reg (.sm q40 (.k (.bool true))
  .fin))
 .ret)))),[(q40,none)],[]⟩
def c47 : CFn := ⟨[some q50,some q60],(.seq (.reg (.gen ⟨(.slot q),.box (.t q50),none⟩
  (.gen ⟨(.slot q0),.box (.t q60),none⟩
  (.gen ⟨(.slot q1),.box (.k (.agg [(.bool false),.snil,(.bool false),.snil])),none⟩
  .fin))))
 (.seq (.regd [(⟨(.slot q2),.faddr 0 (.t q),none⟩,⟨0,0,0⟩),
  (⟨(.slot q3),.load true 2 (.t q2),none⟩,⟨1,0,0⟩),
  (⟨(.slot q4),.faddr 0 (.t q0),none⟩,⟨0,0,0⟩),
  (⟨(.slot q5),.load true 2 (.t q4),none⟩,⟨1,0,0⟩),
  (⟨(.slot q6),.call q431 [(.t q3),(.t q5)],none⟩,⟨3,0,1⟩),
  (⟨(.slot q7),.faddr 2 (.t q),none⟩,⟨0,0,1⟩),
  (⟨(.slot q00),.load true 2 (.t q7),none⟩,⟨1,0,1⟩),
  (⟨(.slot q10),.faddr 2 (.t q0),none⟩,⟨0,0,1⟩),
  (⟨(.slot q20),.load true 2 (.t q10),none⟩,⟨1,0,1⟩),
  (⟨(.slot q30),.call q431 [(.t q00),(.t q20)],none⟩,⟨3,1,2⟩),
  (⟨(.slot q40),.call q331 [(.t q6),(.t q30)],none⟩,⟨3,2,3⟩),
  (⟨.drop,.store 4 (.t q1) (.t q40),none⟩,⟨3,3,4⟩)])
 .ret)),[(q1,some (true,4))],[]⟩
def c48 : CFn := ⟨[some q0],(.seq (.reg (.gen ⟨(.slot q),.box (.k (.agg [(.bool false),.snil,(.bool false),.snil])),none⟩
  .fin))
 (.seq (.reg (.pca q301 [(.t q0)]
  (.pca q301 [(.k (.int .i64 1))]
  (.gen ⟨.push,.build [(.bool false),.snil,(.bool false),.snil] [(0,2,(.l x1)),(2,2,(.l x0))],none⟩
  (.st 4 (.t q) (.l x0)
  .fin)))))
 .ret)),[(q,some (true,4))],[]⟩
def c49 : CFn := ⟨[some q2,some q70],(.seq (.reg (.gen ⟨(.slot q1),.box (.t q70),none⟩
  (.sm q (.k .snil)
  (.sm q0 (.k (.int .i64 0))
  .fin))))
 (.seq (.regc (.gen ⟨.push,.cmp 1 .eql (.t q2) (.k .pnil),none⟩
  .fin) (.l x0) (.seq (.reg (.sm q (.k .snil)
  (.sm q0 (.k (.int .i64 1))
  .fin)))
 .ret) .skip)
 (.seq (.seq (.regd [(⟨(.slot q7),.faddr 0 (.t q1),none⟩,⟨0,0,1⟩),
  (⟨(.slot q00),.load false 1 (.t q7),none⟩,⟨1,0,1⟩),
  (⟨(.slot q10),.len (.t q00),none⟩,⟨0,0,1⟩),
  (⟨(.slot q20),.move (.t q2),none⟩,⟨0,0,0⟩),
  (⟨(.slot q30),.call q36 [(.t q20)],none⟩,⟨3,0,1⟩),
  (⟨(.slot q40),.fld false 1 1 (.t q30),none⟩,⟨0,1,1⟩),
  (⟨(.slot q50),.bin .sub (.t q40) (.k (.int .i64 1)),none⟩,⟨0,1,1⟩),
  (⟨(.slot q60),.bin .neq (.t q10) (.t q50),none⟩,⟨0,1,1⟩)])
 (.cond (.t q60) (.seq (.reg (.sm q (.k .snil)
  (.sm q0 (.k (.int .i64 4))
  .fin)))
 .ret) .skip))
 (.seq (.seq (.reg (.pfa 1 (.t q1)
  (.pld true 2 (.l x0)
  (.pca q531 [(.l x0)]
  (.sm q3 (.l x0)
  .fin)))))
 (.regc (.pb .neq (.t q3) (.k (.int .i64 0))
  .fin) (.l x0) (.seq (.reg (.gen ⟨.push,.move (.t q3),none⟩
  (.sm q (.k .snil)
  (.sm q0 (.l x0)
  .fin))))
 .ret) .skip))
 (.seq (.seq (.reg (.pfa 3 (.t q1)
  (.pld true 2 (.l x0)
  (.pca q531 [(.l x0)]
  (.sm q4 (.l x0)
  .fin)))))
 (.regc (.pb .neq (.t q4) (.k (.int .i64 0))
  .fin) (.l x0) (.seq (.reg (.gen ⟨.push,.move (.t q4),none⟩
  (.sm q (.k .snil)
  (.sm q0 (.l x0)
  .fin))))
 .ret) .skip))
 (.seq (.reg (.pfa 1 (.t q1)
  (.pld true 2 (.l x0)
  (.pfa 3 (.t q1)
  (.pld true 2 (.l x0)
  (.pca q631 [(.l x2),(.l x0)]
  (.pex (.l x0) 0
  (.pex (.l x1) 1
  (.sm q6 (.l x1)
  (.sm q5 (.l x0)
  .fin))))))))))
 (.seq (.regc (.pb .neq (.t q5) (.k (.int .i64 0))
  .fin) (.l x0) (.seq (.reg (.gen ⟨.push,.move (.t q5),none⟩
  (.sm q (.k .snil)
  (.sm q0 (.l x0)
  .fin))))
 .ret) .skip)
 (.seq (.reg (.pfa 0 (.t q1)
  (.pld false 1 (.l x0)
  (.pca q731 [(.t q2),(.l x0),(.t q6)]
  (.pex (.l x0) 0
  (.pex (.l x1) 1
  (.sm q (.l x1)
  (.sm q0 (.l x0)
  .fin))))))))
 .ret)))))))),[(q,none),(q0,none)],[]⟩
def c50 : CFn := ⟨[some q51,some q61],(.seq (.reg (.gen ⟨(.slot q),.box (.t q51),none⟩
  (.gen ⟨(.slot q0),.box (.t q61),none⟩
  (.gen ⟨(.slot q1),.box (.k (.agg [(.bool false),.snil,(.bool false),.snil])),none⟩
  .fin))))
 (.seq (.block 0 (.regc (.pfa 2 (.t q)
  (.pld true 2 (.l x0)
  (.pca q221 [(.l x0)]
  (.pb .eql (.l x0) (.k (.int .i64 0))
  .fin)))) (.l x0) (.seq (.reg (.pld true 4 (.t q0)
  (.pca q77 [(.l x0)]
  (.st 4 (.t q1) (.l x0)
  .fin))))
 .ret) (.regc (.pfa 2 (.t q0)
  (.pld true 2 (.l x0)
  (.pca q221 [(.l x0)]
  (.pb .eql (.l x0) (.k (.int .i64 0))
  .fin)))) (.l x0) (.seq (.reg (.pld true 4 (.t q)
  (.pca q77 [(.l x0)]
  (.st 4 (.t q1) (.l x0)
  .fin))))
 .ret) (.regc (.pfa 2 (.t q)
  (.pld true 2 (.l x0)
  (.pca q041 [(.l x0)]
  (.gen ⟨.push,.faddr 2 (.t q0),some ((.l x0),true)⟩
  (.gen ⟨.push,.load true 2 (.l x0),some ((.l x1),true)⟩
  (.gen ⟨.push,.call q041 [(.l x0)],some ((.l x2),true)⟩
  (.gen ⟨.push,.pick (.l x3) (.l x0) (.k (.bool false)),none⟩
  .fin))))))) (.l x0) (.seq (.reg (.pfa 0 (.t q)
  (.pld true 2 (.l x0)
  (.pfa 0 (.t q0)
  (.pld true 2 (.l x0)
  (.pca q141 [(.l x2),(.l x0)]
  (.pca q211 [(.k (.int .i64 1))]
  (.gen ⟨.push,.build [(.bool false),.snil,(.bool false),.snil] [(0,2,(.l x1)),(2,2,(.l x0))],none⟩
  (.st 4 (.t q1) (.l x0)
  .fin)))))))))
 .ret) .skip))))
 (.seq (.regd [(⟨(.slot q3),.faddr 0 (.t q),none⟩,⟨0,0,0⟩),
  (⟨(.slot q4),.load true 2 (.t q3),none⟩,⟨1,0,0⟩),
  (⟨(.slot q5),.faddr 2 (.t q0),none⟩,⟨0,0,0⟩),
  (⟨(.slot q6),.load true 2 (.t q5),none⟩,⟨1,0,0⟩),
  (⟨(.slot q7),.call q431 [(.t q4),(.t q6)],none⟩,⟨3,0,1⟩),
  (⟨(.slot q00),.faddr 0 (.t q0),none⟩,⟨0,0,1⟩),
  (⟨(.slot q10),.load true 2 (.t q00),none⟩,⟨1,0,1⟩),
  (⟨(.slot q20),.faddr 2 (.t q),none⟩,⟨0,0,1⟩),
  (⟨(.slot q30),.load true 2 (.t q20),none⟩,⟨1,0,1⟩),
  (⟨(.slot q40),.call q431 [(.t q10),(.t q30)],none⟩,⟨3,1,2⟩),
  (⟨(.slot q50),.call q141 [(.t q7),(.t q40)],none⟩,⟨3,2,3⟩),
  (⟨(.slot q2),.box (.k (.agg [(.bool false),.snil])),none⟩,⟨2,0,3⟩),
  (⟨.drop,.store 2 (.t q2) (.t q50),none⟩,⟨3,3,4⟩)])
 (.seq (.regd [(⟨(.slot q60),.load true 2 (.t q2),none⟩,⟨1,0,1⟩),
  (⟨(.slot q70),.faddr 2 (.t q),none⟩,⟨0,0,0⟩),
  (⟨(.slot q01),.load true 2 (.t q70),none⟩,⟨1,0,0⟩),
  (⟨(.slot q11),.faddr 2 (.t q0),none⟩,⟨0,0,0⟩),
  (⟨(.slot q21),.load true 2 (.t q11),none⟩,⟨1,0,0⟩),
  (⟨(.slot q31),.call q431 [(.t q01),(.t q21)],none⟩,⟨3,0,1⟩),
  (⟨(.slot q41),.call q331 [(.t q60),(.t q31)],none⟩,⟨3,1,2⟩),
  (⟨.drop,.store 4 (.t q1) (.t q41),none⟩,⟨3,2,3⟩)])
 .ret)))),[(q1,some (true,4))],[]⟩
def c51 : CFn := ⟨[some q0],(.seq (.reg (.gen ⟨(.slot q),.box (.k (.agg [(.int .i64 0),(.int .i64 0),(.int .i64 0)])),none⟩
  .fin))
 (.seq (.regc (.gen ⟨.push,.cmp 1 .eql (.t q0) (.k .pnil),none⟩
  .fin) (.l x0) (.seq (.reg (.gen ⟨.push,.build [(.int .i64 0),(.int .i64 0),(.int .i64 0)] [],none⟩
  (.st 3 (.t q) (.l x0)
  .fin)))
 .ret) .skip)
 (.seq (.reg (.gen ⟨.push,.nilc (.t q0),none⟩
  (.pfa 0 (.l x0)
  (.pld true 3 (.l x0)
  (.st 3 (.t q) (.l x0)
  .fin)))))
 .ret))),[(q,some (true,3))],[]⟩
def c52 : CFn := ⟨[some q1],(.seq (.reg (.sm q2 (.k (.int .i64 0))
  (.gen ⟨(.slot q),.box (.k (.int .i64 0)),none⟩
  (.sm q3 (.k (.int .i64 0))
  .fin))))
 (.seq (.regc (.pb .eql (.t q1) (.k (.int .i64 0))
  (.gen ⟨.push,.move (.t q1),some ((.l x0),false)⟩
  (.gen ⟨.push,.bin .lss (.l x0) (.k (.int .i64 (-2147483647))),some ((.l x1),false)⟩
  (.gen ⟨.push,.pick (.l x2) (.k (.bool true)) (.l x0),none⟩
  (.gen ⟨.push,.move (.t q1),some ((.l x0),false)⟩
  (.gen ⟨.push,.bin .gtr (.l x0) (.k (.int .i64 2147483647)),some ((.l x1),false)⟩
  (.gen ⟨.push,.pick (.l x2) (.k (.bool true)) (.l x0),none⟩
  .fin))))))) (.l x0) (.seq (.reg (.sm q2 (.k (.int .i64 0))
  (.st 1 (.t q) (.k (.int .i64 0))
  (.sm q3 (.k (.int .i64 2))
  .fin))))
 .ret) .skip)
 (.seq (.seq (.reg (.pca q241 [(.t q1),(.k (.int .i64 4))]
  (.sm q4 (.l x0)
  .fin)))
 (.regc (.pb .gtr (.t q4) (.k (.int .i64 1))
  .fin) (.l x0) (.seq (.reg (.sm q2 (.k (.int .i64 0))
  (.st 1 (.t q) (.k (.int .i64 0))
  (.sm q3 (.k (.int .i64 15))
  .fin))))
 .ret) .skip))
 (.seq (.reg (.gen ⟨(.slot q0),.box (.k (.int .i64 0)),none⟩
  (.st 1 (.t q0) (.k (.int .i64 1))
  (.st 1 (.t q) (.k (.int .i64 1))
  .fin))))
 (.seq (.reg (.gen ⟨.push,.un .neg (.t q1),none⟩
  (.gen ⟨.push,.max [(.t q1),(.l x0)],none⟩
  (.gen ⟨.push,.mkfn q341 [(.t q0),(.t q)],none⟩
  (.pca q601 [(.l x1),(.l x0)]
  .fin)))))
 (.seq (.regc (.pb .lss (.t q1) (.k (.int .i64 0))
  .fin) (.l x0) (.reg (.pld false 1 (.t q0)
  (.gen ⟨.push,.un .neg (.l x0),none⟩
  (.st 1 (.t q0) (.l x0)
  .fin)))) .skip)
 (.seq (.regc (.pld false 1 (.t q0)
  (.pca q241 [(.l x0),(.k (.int .i64 4))]
  (.pb .neq (.l x0) (.k (.int .i64 1))
  .fin))) (.l x0) (.seq (.regd [(⟨(.slot q5),.load false 1 (.t q0),none⟩,⟨1,0,0⟩),
  (⟨(.slot q6),.bin .mul (.k (.int .i64 4)) (.t q5),none⟩,⟨0,0,0⟩),
  (⟨(.slot q7),.load false 1 (.t q),none⟩,⟨1,0,0⟩),
  (⟨(.slot q00),.bin .quo (.t q7) (.k (.int .i64 2)),none⟩,⟨0,0,0⟩),
  (⟨(.slot q2),.move (.t q6),none⟩,⟨0,0,0⟩),
  (⟨.drop,.store 1 (.t q) (.t q00),none⟩,⟨3,0,1⟩),
  (⟨(.slot q3),.move (.k (.int .i64 0)),none⟩,⟨0,1,1⟩)])
 .ret) .skip)
 (.seq (.regd [(⟨(.slot q10),.load false 1 (.t q0),none⟩,⟨1,0,0⟩),
  (⟨(.slot q20),.load false 1 (.t q),none⟩,⟨1,0,0⟩),
  (⟨(.slot q2),.move (.t q10),none⟩,⟨0,0,0⟩),
  (⟨.drop,.store 1 (.t q) (.t q20),none⟩,⟨3,0,1⟩),
  (⟨(.slot q3),.move (.k (.int .i64 0)),none⟩,⟨0,1,1⟩)])
 .ret)))))))),[(q2,none),(q,some (false,1)),(q3,none)],[]⟩
def c53 : CFn := ⟨[some q0,some q],(.seq (.reg (.sm q5 (.k (.int .i64 0))
  .fin))
 (.seq (.block 0 (.loop (.seq (.regc (.pb .neq (.t q) (.k (.int .i64 0))
  .fin) (.l x0) .skip (.exit 0))
 (.block 1 (.regd [(⟨(.slot q1),.move (.t q),none⟩,⟨0,0,0⟩),
  (⟨(.slot q2),.move (.t q0),none⟩,⟨0,0,0⟩),
  (⟨(.slot q3),.move (.t q),none⟩,⟨0,0,0⟩),
  (⟨(.slot q4),.bin .rem (.t q2) (.t q3),none⟩,⟨0,0,0⟩),
  (⟨(.slot q0),.move (.t q1),none⟩,⟨0,0,0⟩),
  (⟨(.slot q),.move (.t q4),none⟩,⟨0,0,0⟩)])))))
 (.seq (.reg (.gen ⟨.push,.un .neg (.t q0),none⟩
  (.gen ⟨.push,.max [(.t q0),(.l x0),(.k (.int .i64 0))],none⟩
  (.sm q5 (.l x0)
  .fin))))
 .ret))),[(q5,none)],[]⟩
def c54 : CFn := ⟨[some q0,some q4],(.seq (.reg (.sm q1 (.k (.int .i64 0))
  .fin))
 (.seq (.regc (.pb .eql (.t q4) (.k (.int .i64 0))
  .fin) (.l x0) (.seq (.regc (.pb .eql (.t q0) (.k (.int .i64 1))
  (.gen ⟨.push,.move (.t q0),some ((.l x0),false)⟩
  (.gen ⟨.push,.bin .eql (.l x0) (.k (.int .i64 (-1))),some ((.l x1),false)⟩
  (.gen ⟨.push,.pick (.l x2) (.k (.bool true)) (.l x0),none⟩
  .fin)))) (.l x0) (.seq (.reg (.sm q1 (.k (.int .i64 1))
  .fin))
 .ret) .skip)
 (.seq (.reg (.sm q1 (.k (.int .i64 0))
  .fin))
 .ret)) .skip)
 (.seq (.reg (.sm q2 (.k (.int .i64 1))
  .fin))
 (.seq (.reg (.pcv .u64 (.t q4)
  (.sm q (.l x0)
  .fin)))
 (.seq (.regc (.pb .lss (.t q4) (.k (.int .i64 0))
  .fin) (.l x0) (.seq (.reg (.gen ⟨.push,.un .neg (.t q),none⟩
  (.sm q (.l x0)
  .fin)))
 (.regc (.pb .lss (.t q0) (.k (.int .i64 0))
  .fin) (.l x0) (.reg (.sm q2 (.k (.int .i64 (-1)))
  .fin)) .skip)) .skip)
 (.seq (.seq (.reg (.pca q541 [(.t q)]
  (.sm q3 (.l x0)
  .fin)))
 (.regc (.pb .gtr (.t q3) (.k (.int .i64 0))
  .fin) (.l x0) (.seq (.regc (.pb .rem (.t q0) (.k (.int .i64 2))
  (.pb .eql (.l x0) (.k (.int .i64 0))
  .fin)) (.l x0) (.seq (.reg (.sm q1 (.k (.int .i64 0))
  .fin))
 .ret) .skip)
 (.seq (.reg (.pb .shr (.t q) (.t q3)
  (.sm q (.l x0)
  .fin)))
 (.seq (.reg (.pca q241 [(.t q0),(.k (.int .i64 8))]
  (.sm q5 (.l x0)
  .fin)))
 (.regc (.pb .rem (.t q3) (.k (.int .i64 2))
  (.pb .eql (.l x0) (.k (.int .i64 1))
  (.gen ⟨.push,.move (.t q5),some ((.l x0),true)⟩
  (.gen ⟨.push,.bin .eql (.l x0) (.k (.int .i64 3)),some ((.l x1),true)⟩
  (.gen ⟨.push,.move (.l x0),some ((.l x2),true)⟩
  (.gen ⟨.push,.move (.t q5),some ((.l x0),false)⟩
  (.gen ⟨.push,.bin .eql (.l x0) (.k (.int .i64 5)),some ((.l x1),false)⟩
  (.gen ⟨.push,.pick (.l x2) (.k (.bool true)) (.l x0),some ((.l x5),true)⟩
  (.gen ⟨.push,.pick (.l x6) (.l x0) (.k (.bool false)),none⟩
  .fin))))))))) (.l x0) (.reg (.gen ⟨.push,.un .neg (.t q2),none⟩
  (.sm q2 (.l x0)
  .fin))) .skip)))) .skip))
 (.seq (.reg (.pca q741 [(.t q0),(.t q)]
  (.pca q641 [(.l x0),(.t q)]
  (.pb .mul (.t q2) (.l x0)
  (.sm q1 (.l x0)
  .fin)))))
 .ret))))))),[(q1,none)],[]⟩
def c56 : CFn := ⟨[some q73],(.seq (.reg (.gen ⟨(.slot q62),.box (.t q73),none⟩
  (.sm q42 (.k .pnil)
  (.sm q52 (.k (.int .i64 0))
  .fin))))
 (.seq (.reg (.pld true 3 (.t q62)
  (.pca q251 [(.l x0)]
  (.pex (.l x0) 0
  (.pex (.l x1) 1
  (.gen ⟨(.slot q72),.box (.k (.agg [(.int .i64 0),(.int .i64 0),.snil])),none⟩
  (.st 3 (.t q72) (.l x1)
  (.sm q03 (.l x0)
  .fin))))))))
 (.seq (.regc (.pb .neq (.t q03) (.k (.int .i64 0))
  .fin) (.l x0) (.seq (.reg (.gen ⟨.push,.move (.t q03),none⟩
  (.sm q42 (.k .pnil)
  (.sm q52 (.l x0)
  .fin))))
 .ret) .skip)
 (.seq (.reg (.pld true 3 (.t q72)
  (.pca q351 [(.l x0)]
  (.sm q71 (.l x0)
  .fin))))
 (.seq (.regd [(⟨(.slot q23),.load true 3 (.t q62),none⟩,⟨1,0,0⟩),
  (⟨(.slot q33),.move (.t q71),none⟩,⟨0,0,0⟩),
  (⟨(.slot q13),.len (.t q33),none⟩,⟨0,0,0⟩),
  (⟨(.slot q43),.mksl 1 24 [.snil] (.t q13) (.t q13),none⟩,⟨2,0,0⟩),
  (⟨(.slot q53),.build [(.int .i64 0),(.int .i64 0),(.int .i64 0),.snil,.snil] [(0,3,(.t q23)),(4,1,(.t q43))],none⟩,⟨0,0,0⟩),
  (⟨(.slot q63),.box (.t q53),none⟩,⟨2,0,0⟩),
  (⟨(.slot q01),.move (.t q63),none⟩,⟨0,0,0⟩)])
 (.seq (.seq (.reg (.sm q22 (.t q71)
  (.gen ⟨(.slot q32),.len (.t q22),none⟩
  (.sm q51 (.k (.int .i64 0))
  .fin))))
 (.block 0 (.loop (.seq (.regc (.pb .lss (.t q51) (.t q32)
  .fin) (.l x0) .skip (.exit 0))
 (.seq (.block 1 (.seq (.reg (.pia 1 (.t q22) (.t q51)
  (.pld false 1 (.l x0)
  (.sm q02 (.t q51)
  (.sm q12 (.l x0)
  .fin)))))
 (.regc (.gen ⟨.push,.cmp 2 .eql (.t q12) (.k .snil),none⟩
  .fin) (.l x0) (.reg (.gen ⟨.push,.nilc (.t q01),none⟩
  (.pfa 3 (.l x0)
  (.pld false 1 (.l x0)
  (.gen ⟨.push,.bsl 1 1 [(.int .i64 0)] [(0,(.t q02))],none⟩
  (.gen ⟨.push,.append 1 8 (.l x1) (.l x0),none⟩
  (.gen ⟨.push,.nilc (.t q01),none⟩
  (.pfa 3 (.l x0)
  (.st 1 (.l x0) (.l x2)
  .fin))))))))) .skip)))
 (.reg (.pb .add (.t q51) (.k (.int .i64 1))
  (.sm q51 (.l x0)
  .fin))))))))
 (.seq (.reg (.gen ⟨.push,.nilc (.t q01),none⟩
  (.pfa 3 (.l x0)
  (.pld false 1 (.l x0)
  (.pln (.l x0)
  (.sm q61 (.l x0)
  .fin))))))
 (.seq (.seq (.reg (.pln (.t q71)
  (.pb .sub (.l x0) (.k (.int .i64 1))
  (.sm q41 (.l x0)
  .fin))))
 (.block 2 (.loop (.seq (.regc (.pb .geq (.t q41) (.k (.int .i64 0))
  .fin) (.l x0) .skip (.exit 2))
 (.seq (.block 3 (.seq (.reg (.gen ⟨.push,.nilc (.t q01),none⟩
  (.pfa 3 (.l x0)
  (.pld false 1 (.l x0)
  (.pln (.l x0)
  (.gen ⟨.push,.mksl 4 64 [(.bool false),.snil,(.bool false),.snil] (.l x0) (.l x0),none⟩
  (.sm q2 (.l x0)
  .fin)))))))
 (.seq (.seq (.reg (.gen ⟨(.slot q21),.len (.t q2),none⟩
  (.sm q (.k (.int .i64 0))
  .fin)))
 (.block 4 (.loop (.seq (.regc (.pb .lss (.t q) (.t q21)
  .fin) (.l x0) .skip (.exit 4))
 (.seq (.block 5 (.seq (.reg (.sm q3 (.t q)
  .fin))
 (.reg (.pca q24 [(.k (.int .i64 0))]
  (.pia 4 (.t q2) (.t q3)
  (.st 4 (.l x0) (.l x1)
  .fin))))))
 (.reg (.pb .add (.t q) (.k (.int .i64 1))
  (.sm q (.l x0)
  .fin))))))))
 (.seq (.regc (.pia 1 (.t q71) (.t q41)
  (.pld false 1 (.l x0)
  (.gen ⟨.push,.cmp 2 .eql (.l x0) (.k .snil),none⟩
  .fin))) (.l x0) (.seq (.reg (.pb .sub (.t q61) (.k (.int .i64 1))
  (.sm q61 (.l x0)
  .fin)))
 (.reg (.pca q24 [(.k (.int .i64 1))]
  (.pia 4 (.t q2) (.t q61)
  (.st 4 (.l x0) (.l x1)
  .fin))))) (.seq (.reg (.pia 1 (.t q71) (.t q41)
  (.pld false 1 (.l x0)
  (.gen ⟨(.slot q11),.slc 5 (.l x0) (some (.k (.int .i64 1))) none,none⟩
  (.gen ⟨(.slot q31),.len (.t q11),none⟩
  (.sm q0 (.k (.int .i64 0))
  .fin))))))
 (.block 6 (.loop (.seq (.regc (.pb .lss (.t q0) (.t q31)
  .fin) (.l x0) .skip (.exit 6))
 (.seq (.block 7 (.seq (.reg (.pia 5 (.t q11) (.t q0)
  (.pld true 5 (.l x0)
  (.gen ⟨(.slot q1),.box (.k (.agg [(.int .i64 0),(.bool false),.snil,(.bool false),.snil])),none⟩
  (.st 5 (.t q1) (.l x0)
  .fin)))))
 (.regd [(⟨(.slot q4),.move (.t q2),none⟩,⟨0,0,1⟩),
  (⟨(.slot q5),.faddr 1 (.t q1),none⟩,⟨0,0,0⟩),
  (⟨(.slot q6),.load true 4 (.t q5),none⟩,⟨1,0,0⟩),
  (⟨(.slot q7),.call q551 [(.t q6)],none⟩,⟨3,0,1⟩),
  (⟨(.slot q00),.move (.t q01),none⟩,⟨0,0,1⟩),
  (⟨(.slot q10),.nilc (.t q00),none⟩,⟨0,0,1⟩),
  (⟨(.slot q20),.faddr 4 (.t q10),none⟩,⟨0,0,1⟩),
  (⟨(.slot q30),.load false 1 (.t q20),none⟩,⟨1,0,1⟩),
  (⟨(.slot q40),.faddr 0 (.t q1),none⟩,⟨0,0,1⟩),
  (⟨(.slot q50),.load false 1 (.t q40),none⟩,⟨1,0,1⟩),
  (⟨(.slot q60),.iaddr 1 (.t q30) (.t q50),none⟩,⟨0,0,1⟩),
  (⟨(.slot q70),.load false 1 (.t q60),none⟩,⟨1,0,1⟩),
  (⟨.drop,.call q451 [(.t q4),(.t q7),(.t q70)],none⟩,⟨3,1,2⟩)])))
 (.reg (.pb .add (.t q0) (.k (.int .i64 1))
  (.sm q0 (.l x0)
  .fin)))))))))
 (.reg (.gen ⟨.push,.nilc (.t q01),none⟩
  (.pfa 4 (.l x0)
  (.pld false 1 (.l x0)
  (.pia 1 (.l x0) (.t q41)
  (.st 1 (.l x0) (.t q2)
  .fin))))))))))
 (.reg (.pb .sub (.t q41) (.k (.int .i64 1))
  (.sm q41 (.l x0)
  .fin))))))))
 (.seq (.reg (.sm q42 (.t q01)
  (.sm q52 (.k (.int .i64 0))
  .fin)))
 .ret))))))))),[(q42,none),(q52,none)],[]⟩
def c57 : CFn := ⟨[some q01],(.seq (.reg (.gen ⟨(.slot q11),.box (.k (.agg [(.int .i64 0),(.int .i64 0),.snil])),none⟩
  (.sm q21 (.k (.int .i64 0))
  .fin)))
 (.seq (.regc (.gen ⟨.push,.cmp 1 .eql (.t q01) (.k .pnil),none⟩
  .fin) (.l x0) (.seq (.reg (.gen ⟨.push,.build [(.int .i64 0),(.int .i64 0),.snil] [],none⟩
  (.st 3 (.t q11) (.l x0)
  (.sm q21 (.k (.int .i64 1))
  .fin))))
 .ret) .skip)
 (.seq (.reg (.pca q27 [(.t q01)]
  (.gen ⟨.push,.mksl 1 24 [.snil] (.k (.int .i64 0)) (.l x0),none⟩
  (.sm q31 (.l x0)
  .fin))))
 (.seq (.seq (.reg (.gen ⟨(.slot q61),.call q651 [(.t q01)],none⟩
  (.gen ⟨(.slot q71),.len (.t q61),none⟩
  (.sm q70 (.k (.int .i64 0))
  .fin))))
 (.block 0 (.loop (.seq (.regc (.pb .lss (.t q70) (.t q71)
  .fin) (.l x0) .skip (.exit 0))
 (.seq (.block 1 (.seq (.reg (.pia 1 (.t q61) (.t q70)
  (.pld false 1 (.l x0)
  (.sm q41 (.l x0)
  .fin))))
 (.seq (.reg (.pca q36 [(.t q01)]
  (.pca q751 [(.l x0),(.t q41)]
  (.pex (.l x0) 0
  (.pex (.l x1) 1
  (.pex (.l x2) 2
  (.sm q51 (.l x2)
  (.sm q40 (.l x1)
  (.sm q60 (.l x0)
  .fin)))))))))
 (.seq (.regc (.pb .neq (.t q60) (.k (.int .i64 0))
  .fin) (.l x0) (.seq (.reg (.gen ⟨.push,.build [(.int .i64 0),(.int .i64 0),.snil] [],none⟩
  (.st 3 (.t q11) (.l x0)
  (.sm q21 (.t q60)
  .fin))))
 .ret) .skip)
 (.seq (.reg (.pca q061 [(.t q01),(.t q51)]
  (.pex (.l x0) 0
  (.pex (.l x1) 1
  (.sm q1 (.l x1)
  (.sm q60 (.l x0)
  .fin))))))
 (.seq (.regc (.pb .neq (.t q60) (.k (.int .i64 0))
  .fin) (.l x0) (.seq (.reg (.gen ⟨.push,.build [(.int .i64 0),(.int .i64 0),.snil] [],none⟩
  (.st 3 (.t q11) (.l x0)
  (.sm q21 (.t q60)
  .fin))))
 .ret) .skip)
 (.seq (.seq (.reg (.gen ⟨(.slot q50),.len (.t q1),none⟩
  (.sm q (.k (.int .i64 0))
  .fin)))
 (.block 2 (.loop (.seq (.regc (.pb .lss (.t q) (.t q50)
  .fin) (.l x0) .skip (.exit 2))
 (.seq (.block 3 (.seq (.reg (.sm q0 (.t q)
  .fin))
 (.regd [(⟨(.slot q2),.move (.t q1),none⟩,⟨0,0,2⟩),
  (⟨(.slot q3),.move (.t q0),none⟩,⟨0,0,2⟩),
  (⟨(.slot q4),.move (.t q40),none⟩,⟨0,0,0⟩),
  (⟨(.slot q5),.call q24 [(.t q4)],none⟩,⟨3,0,1⟩),
  (⟨(.slot q6),.move (.t q1),none⟩,⟨0,0,1⟩),
  (⟨(.slot q7),.move (.t q0),none⟩,⟨0,0,1⟩),
  (⟨(.slot q00),.iaddr 4 (.t q6) (.t q7),none⟩,⟨0,0,1⟩),
  (⟨(.slot q10),.load true 4 (.t q00),none⟩,⟨1,0,1⟩),
  (⟨(.slot q20),.call q75 [(.t q5),(.t q10)],none⟩,⟨3,1,2⟩),
  (⟨(.slot q30),.iaddr 4 (.t q2) (.t q3),none⟩,⟨0,2,2⟩),
  (⟨.drop,.store 4 (.t q30) (.t q20),none⟩,⟨3,2,3⟩)])))
 (.reg (.pb .add (.t q) (.k (.int .i64 1))
  (.sm q (.l x0)
  .fin))))))))
 (.reg (.gen ⟨.push,.bsl 1 1 [.snil] [(0,(.t q1))],none⟩
  (.gen ⟨.push,.append 1 24 (.t q31) (.l x0),none⟩
  (.sm q31 (.l x0)
  .fin)))))))))))
 (.reg (.pb .add (.t q70) (.k (.int .i64 1))
  (.sm q70 (.l x0)
  .fin))))))))
 (.seq (.reg (.pca q27 [(.t q01)]
  (.pca q161 [(.l x0),(.t q31)]
  (.pex (.l x0) 0
  (.pex (.l x1) 1
  (.st 3 (.t q11) (.l x1)
  (.sm q21 (.l x0)
  .fin)))))))
 .ret))))),[(q11,some (true,3)),(q21,none)],[]⟩
def c58 : CFn := ⟨[some q0],(.seq (.reg (.sm q (.k (.int .i64 0))
  .fin))
 (.seq (.regc (.gen ⟨.push,.cmp 1 .eql (.t q0) (.k .pnil),none⟩
  .fin) (.l x0) (.seq (.reg (.sm q (.k (.int .i64 0))
  .fin))
 .ret) .skip)
 (.seq (.reg (.gen ⟨.push,.nilc (.t q0),none⟩
  (.pfa 3 (.l x0)
  (.pld false 1 (.l x0)
  (.pln (.l x0)
  (.sm q (.l x0)
  .fin))))))
 .ret))),[(q,none)],[]⟩
def c61 : CFn := ⟨[some q2,some q4],(.seq (.reg (.gen ⟨(.slot q),.box (.k (.agg [(.int .i64 0),(.int .i64 0),.snil])),none⟩
  (.sm q0 (.k (.int .i64 0))
  .fin)))
 (.seq (.regc (.gen ⟨.push,.cmp 1 .eql (.t q2) (.k .pnil),none⟩
  .fin) (.l x0) (.seq (.reg (.gen ⟨.push,.build [(.int .i64 0),(.int .i64 0),.snil] [],none⟩
  (.st 3 (.t q) (.l x0)
  (.sm q0 (.k (.int .i64 1))
  .fin))))
 .ret) .skip)
 (.seq (.reg (.pca q561 [(.t q4)]
  (.pex (.l x0) 0
  (.pex (.l x1) 1
  (.sm q3 (.l x1)
  (.sm q1 (.l x0)
  .fin))))))
 (.seq (.regc (.pb .neq (.t q1) (.k (.int .i64 0))
  .fin) (.l x0) (.seq (.reg (.gen ⟨.push,.build [(.int .i64 0),(.int .i64 0),.snil] [],none⟩
  (.st 3 (.t q) (.l x0)
  (.sm q0 (.t q1)
  .fin))))
 .ret) .skip)
 (.seq (.reg (.pca q661 [(.t q2),(.t q3)]
  (.pex (.l x0) 0
  (.pex (.l x1) 1
  (.st 3 (.t q) (.l x1)
  (.sm q0 (.l x0)
  .fin))))))
 .ret))))),[(q,some (true,3)),(q0,none)],[]⟩
def c63 : CFn := ⟨[some q1],(.seq (.reg (.gen ⟨(.slot q),.box (.t q1),none⟩
  (.gen ⟨(.slot q0),.box (.k (.agg [(.bool false),.snil,(.bool false),.snil])),none⟩
  .fin)))
 (.seq (.reg (.pfa 0 (.t q)
  (.pld true 2 (.l x0)
  (.pfa 2 (.t q)
  (.pld true 2 (.l x0)
  (.pca q331 [(.l x2),(.l x0)]
  (.st 4 (.t q0) (.l x0)
  .fin)))))))
 .ret)),[(q0,some (true,4))],[]⟩
def c64 : CFn := ⟨[some q32,some q71],(.seq (.reg (.gen ⟨(.slot q02),.box (.k (.agg [(.int .i64 0),(.int .i64 0),(.int .i64 0),.snil])),none⟩
  (.sm q12 (.k (.int .i64 0))
  .fin)))
 (.seq (.regc (.gen ⟨.push,.cmp 1 .eql (.t q32) (.k .pnil),none⟩
  .fin) (.l x0) (.seq (.reg (.gen ⟨.push,.build [(.int .i64 0),(.int .i64 0),(.int .i64 0),.snil] [],none⟩
  (.st 4 (.t q02) (.l x0)
  (.sm q12 (.k (.int .i64 1))
  .fin))))
 .ret) .skip)
 (.seq (.regc (.pb .neq (.t q71) (.k (.int .i64 1))
  (.gen ⟨.push,.move (.t q71),some ((.l x0),true)⟩
  (.gen ⟨.push,.bin .neq (.l x0) (.k (.int .i64 (-1))),some ((.l x1),true)⟩
  (.gen ⟨.push,.pick (.l x2) (.l x0) (.k (.bool false)),none⟩
  .fin)))) (.l x0) (.seq (.reg (.gen ⟨.push,.build [(.int .i64 0),(.int .i64 0),(.int .i64 0),.snil] [],none⟩
  (.st 4 (.t q02) (.l x0)
  (.sm q12 (.k (.int .i64 2))
  .fin))))
 .ret) .skip)
 (.seq (.reg (.pca q771 [(.t q32)]
  (.pex (.l x0) 0
  (.pex (.l x1) 1
  (.gen ⟨(.slot q42),.box (.k (.agg [(.int .i64 0),(.int .i64 0),.snil])),none⟩
  (.st 3 (.t q42) (.l x1)
  (.sm q22 (.l x0)
  .fin)))))))
 (.seq (.regc (.pb .neq (.t q22) (.k (.int .i64 0))
  .fin) (.l x0) (.seq (.reg (.gen ⟨.push,.build [(.int .i64 0),(.int .i64 0),(.int .i64 0),.snil] [],none⟩
  (.st 4 (.t q02) (.l x0)
  (.sm q12 (.t q22)
  .fin))))
 .ret) .skip)
 (.seq (.reg (.pca q17 [(.t q32)]
  (.pex (.l x0) 0
  (.pex (.l x1) 1
  (.gen ⟨(.slot q0),.box (.k (.agg [(.int .i64 0),(.int .i64 0),.snil])),none⟩
  (.st 3 (.t q0) (.l x1)
  (.sm q22 (.l x0)
  .fin)))))))
 (.seq (.regc (.pb .neq (.t q22) (.k (.int .i64 0))
  .fin) (.l x0) (.seq (.reg (.gen ⟨.push,.build [(.int .i64 0),(.int .i64 0),(.int .i64 0),.snil] [],none⟩
  (.st 4 (.t q02) (.l x0)
  (.sm q12 (.t q22)
  .fin))))
 .ret) .skip)
 (.seq (.seq (.reg (.sm q (.k (.int .i64 0))
  .fin))
 (.block 0 (.loop (.seq (.regc (.pfa 0 (.t q0)
  (.pld false 1 (.l x0)
  (.pb .lss (.t q) (.l x0)
  .fin))) (.l x0) .skip (.exit 0))
 (.seq (.block 1 (.regd [(⟨(.slot q1),.faddr 2 (.t q0),none⟩,⟨0,0,2⟩),
  (⟨(.slot q2),.load false 1 (.t q1),none⟩,⟨1,0,2⟩),
  (⟨(.slot q3),.move (.t q),none⟩,⟨0,0,2⟩),
  (⟨(.slot q4),.faddr 1 (.t q0),none⟩,⟨0,0,2⟩),
  (⟨(.slot q5),.load false 1 (.t q4),none⟩,⟨1,0,2⟩),
  (⟨(.slot q6),.bin .mul (.t q3) (.t q5),none⟩,⟨0,0,2⟩),
  (⟨(.slot q7),.move (.t q),none⟩,⟨0,0,2⟩),
  (⟨(.slot q00),.bin .add (.t q6) (.t q7),none⟩,⟨0,0,2⟩),
  (⟨(.slot q10),.faddr 2 (.t q0),none⟩,⟨0,0,1⟩),
  (⟨(.slot q20),.load false 1 (.t q10),none⟩,⟨1,0,1⟩),
  (⟨(.slot q30),.move (.t q),none⟩,⟨0,0,1⟩),
  (⟨(.slot q40),.faddr 1 (.t q0),none⟩,⟨0,0,1⟩),
  (⟨(.slot q50),.load false 1 (.t q40),none⟩,⟨1,0,1⟩),
  (⟨(.slot q60),.bin .mul (.t q30) (.t q50),none⟩,⟨0,0,1⟩),
  (⟨(.slot q70),.move (.t q),none⟩,⟨0,0,1⟩),
  (⟨(.slot q01),.bin .add (.t q60) (.t q70),none⟩,⟨0,0,1⟩),
  (⟨(.slot q11),.iaddr 4 (.t q20) (.t q01),none⟩,⟨0,0,1⟩),
  (⟨(.slot q21),.load true 4 (.t q11),none⟩,⟨1,0,1⟩),
  (⟨(.slot q31),.move (.t q71),none⟩,⟨0,0,0⟩),
  (⟨(.slot q41),.call q24 [(.t q31)],none⟩,⟨3,0,1⟩),
  (⟨(.slot q51),.call q261 [(.t q21),(.t q41)],none⟩,⟨3,1,2⟩),
  (⟨(.slot q61),.iaddr 4 (.t q2) (.t q00),none⟩,⟨0,2,2⟩),
  (⟨.drop,.store 4 (.t q61) (.t q51),none⟩,⟨3,2,3⟩)]))
 (.reg (.pb .add (.t q) (.k (.int .i64 1))
  (.sm q (.l x0)
  .fin))))))))
 (.seq (.reg (.pld true 3 (.t q42)
  (.pld true 3 (.t q0)
  (.pca q102 [(.l x1),(.l x0)]
  (.pca q002 [(.l x0)]
  (.pex (.l x0) 0
  (.pex (.l x1) 1
  (.st 4 (.t q02) (.l x1)
  (.sm q12 (.l x0)
  .fin)))))))))
 .ret))))))))),[(q02,some (true,4)),(q12,none)],[]⟩
def c65 : CFn := ⟨[some q3],(.seq (.reg (.gen ⟨(.slot q42),.box (.k (.agg [(.int .i64 0),(.int .i64 0),.snil])),none⟩
  (.sm q52 (.k .snil)
  (.sm q62 (.k (.int .i64 0))
  .fin))))
 (.seq (.reg (.gen ⟨.push,.nilc (.t q3),none⟩
  (.pfa 0 (.l x0)
  (.pld true 3 (.l x0)
  (.pca q361 [(.l x0)]
  (.pex (.l x0) 0
  (.pex (.l x1) 1
  (.sm q26 (.l x1)
  (.sm q16 (.l x0)
  .fin)))))))))
 (.seq (.regc (.pb .neq (.t q16) (.k (.int .i64 0))
  .fin) (.l x0) (.seq (.reg (.gen ⟨.push,.build [(.int .i64 0),(.int .i64 0),.snil] [],none⟩
  (.gen ⟨.push,.move (.t q16),none⟩
  (.st 3 (.t q42) (.l x1)
  (.sm q52 (.k .snil)
  (.sm q62 (.l x0)
  .fin))))))
 .ret) .skip)
 (.seq (.reg (.pca q74 [(.t q26)]
  (.pex (.l x0) 0
  (.pex (.l x1) 1
  (.sm q36 (.l x1)
  .fin)))))
 (.seq (.reg (.sm q13 (.k .snil)
  .fin))
 (.seq (.seq (.reg (.sm q75 (.t q36)
  (.gen ⟨(.slot q06),.len (.t q75),none⟩
  (.sm q72 (.k (.int .i64 0))
  .fin))))
 (.block 0 (.loop (.seq (.regc (.pb .lss (.t q72) (.t q06)
  .fin) (.l x0) .skip (.exit 0))
 (.seq (.block 1 (.seq (.reg (.pia 1 (.t q75) (.t q72)
  (.pld false 1 (.l x0)
  (.sm q63 (.l x0)
  .fin))))
 (.seq (.reg (.pca q202 [(.t q3),(.t q63)]
  (.pex (.l x0) 0
  (.pex (.l x1) 1
  (.gen ⟨(.slot q23),.box (.k (.agg [(.int .i64 0),(.int .i64 0),.snil])),none⟩
  (.st 3 (.t q23) (.l x1)
  (.sm q33 (.l x0)
  .fin)))))))
 (.seq (.regc (.pb .neq (.t q33) (.k (.int .i64 0))
  .fin) (.l x0) (.seq (.reg (.gen ⟨.push,.build [(.int .i64 0),(.int .i64 0),.snil] [],none⟩
  (.gen ⟨.push,.move (.t q33),none⟩
  (.st 3 (.t q42) (.l x1)
  (.sm q52 (.k .snil)
  (.sm q62 (.l x0)
  .fin))))))
 .ret) .skip)
 (.reg (.pld true 3 (.t q23)
  (.gen ⟨.push,.bsl 3 1 [(.int .i64 0),(.int .i64 0),.snil] [(0,(.l x0))],none⟩
  (.gen ⟨.push,.append 3 40 (.t q13) (.l x0),none⟩
  (.sm q13 (.l x0)
  .fin)))))))))
 (.reg (.pb .add (.t q72) (.k (.int .i64 1))
  (.sm q72 (.l x0)
  .fin))))))))
 (.seq (.reg (.sm q02 (.k (.int .i64 1))
  .fin))
 (.block 2 (.loop (.seq (.block 3 (.seq (.regd [(⟨(.slot q04),.move (.t q3),none⟩,⟨0,0,0⟩),
  (⟨(.slot q14),.nilc (.t q04),none⟩,⟨0,0,0⟩),
  (⟨(.slot q24),.faddr 4 (.t q14),none⟩,⟨0,0,0⟩),
  (⟨(.slot q34),.faddr 1 (.t q24),none⟩,⟨0,0,0⟩),
  (⟨(.slot q44),.faddr 0 (.t q34),none⟩,⟨0,0,0⟩),
  (⟨(.slot q54),.load false 1 (.t q44),none⟩,⟨1,0,0⟩),
  (⟨(.slot q64),.move (.t q3),none⟩,⟨0,0,0⟩),
  (⟨(.slot q74),.nilc (.t q64),none⟩,⟨0,0,0⟩),
  (⟨(.slot q05),.faddr 4 (.t q74),none⟩,⟨0,0,0⟩),
  (⟨(.slot q15),.faddr 1 (.t q05),none⟩,⟨0,0,0⟩),
  (⟨(.slot q25),.faddr 0 (.t q15),none⟩,⟨0,0,0⟩),
  (⟨(.slot q35),.load false 1 (.t q25),none⟩,⟨1,0,0⟩),
  (⟨(.slot q45),.call q302 [(.t q54),(.t q35)],none⟩,⟨3,0,1⟩),
  (⟨(.slot q53),.move (.t q45),none⟩,⟨0,1,1⟩),
  (⟨(.slot q55),.extract (.t q53) 0,none⟩,⟨0,1,1⟩),
  (⟨(.slot q65),.extract (.t q53) 1,none⟩,⟨0,1,2⟩),
  (⟨(.slot q4),.box (.k (.agg [(.int .i64 0),(.int .i64 0),.snil])),none⟩,⟨2,0,1⟩),
  (⟨.drop,.store 3 (.t q4) (.t q55),none⟩,⟨3,1,2⟩),
  (⟨(.slot q22),.move (.t q65),none⟩,⟨0,2,2⟩)])
 (.seq (.regc (.pb .neq (.t q22) (.k (.int .i64 0))
  .fin) (.l x0) (.seq (.reg (.gen ⟨.push,.build [(.int .i64 0),(.int .i64 0),.snil] [],none⟩
  (.gen ⟨.push,.move (.t q22),none⟩
  (.st 3 (.t q42) (.l x1)
  (.sm q52 (.k .snil)
  (.sm q62 (.l x0)
  .fin))))))
 .ret) .skip)
 (.seq (.reg (.gen ⟨.push,.nilc (.t q3),none⟩
  (.pfa 8 (.l x0)
  (.st 1 (.l x0) (.k .snil)
  .fin))))
 (.seq (.reg (.pca q211 [(.k (.int .i64 1))]
  (.gen ⟨(.slot q0),.box (.k (.agg [(.bool false),.snil])),none⟩
  (.st 2 (.t q0) (.l x0)
  .fin))))
 (.seq (.seq (.reg (.sm q12 (.t q13)
  (.gen ⟨(.slot q32),.len (.t q12),none⟩
  (.sm q1 (.k (.int .i64 0))
  .fin))))
 (.block 4 (.loop (.seq (.regc (.pb .lss (.t q1) (.t q32)
  .fin) (.l x0) .skip (.exit 4))
 (.seq (.block 5 (.seq (.reg (.pia 3 (.t q12) (.t q1)
  (.pld true 3 (.l x0)
  (.gen ⟨(.slot q),.box (.k (.agg [(.int .i64 0),(.int .i64 0),.snil])),none⟩
  (.st 3 (.t q) (.l x0)
  .fin)))))
 (.seq (.regd [(⟨(.slot q5),.load true 3 (.t q),none⟩,⟨1,0,1⟩),
  (⟨(.slot q6),.load true 2 (.t q0),none⟩,⟨1,0,0⟩),
  (⟨(.slot q7),.call q502 [(.t q6)],none⟩,⟨3,0,1⟩),
  (⟨(.slot q00),.call q402 [(.t q5),(.t q7)],none⟩,⟨3,1,2⟩),
  (⟨(.slot q2),.move (.t q00),none⟩,⟨0,2,2⟩),
  (⟨(.slot q10),.extract (.t q2) 0,none⟩,⟨0,2,2⟩),
  (⟨.drop,.extract (.t q2) 1,none⟩,⟨0,2,3⟩),
  (⟨.drop,.store 3 (.t q) (.t q10),none⟩,⟨3,2,3⟩)])
 (.seq (.reg (.pld true 3 (.t q4)
  (.pld true 3 (.t q)
  (.pca q602 [(.l x1),(.l x0)]
  (.pex (.l x0) 0
  (.pex (.l x1) 1
  (.st 3 (.t q4) (.l x1)
  .fin)))))))
 (.seq (.regd [(⟨(.slot q20),.move (.t q3),none⟩,⟨0,0,1⟩),
  (⟨(.slot q30),.move (.t q3),none⟩,⟨0,0,0⟩),
  (⟨(.slot q40),.nilc (.t q30),none⟩,⟨0,0,0⟩),
  (⟨(.slot q50),.faddr 8 (.t q40),none⟩,⟨0,0,0⟩),
  (⟨(.slot q60),.load false 1 (.t q50),none⟩,⟨1,0,0⟩),
  (⟨(.slot q70),.load true 2 (.t q0),none⟩,⟨1,0,0⟩),
  (⟨(.slot q01),.bsl 2 1 [(.bool false),.snil] [(0,(.t q70))],none⟩,⟨2,0,0⟩),
  (⟨(.slot q11),.append 2 32 (.t q60) (.t q01),none⟩,⟨3,0,1⟩),
  (⟨(.slot q21),.nilc (.t q20),none⟩,⟨0,1,1⟩),
  (⟨(.slot q31),.faddr 8 (.t q21),none⟩,⟨0,1,1⟩),
  (⟨.drop,.store 1 (.t q31) (.t q11),none⟩,⟨3,1,2⟩)])
 (.regd [(⟨(.slot q41),.load true 2 (.t q0),none⟩,⟨1,0,1⟩),
  (⟨(.slot q51),.move (.t q02),none⟩,⟨0,0,0⟩),
  (⟨(.slot q61),.call q211 [(.t q51)],none⟩,⟨3,0,1⟩),
  (⟨(.slot q71),.call q431 [(.t q41),(.t q61)],none⟩,⟨3,1,2⟩),
  (⟨.drop,.store 2 (.t q0) (.t q71),none⟩,⟨3,2,3⟩)]))))))
 (.reg (.pb .add (.t q1) (.k (.int .i64 1))
  (.sm q1 (.l x0)
  .fin))))))))
 (.seq (.reg (.pld true 3 (.t q4)
  (.pca q702 [(.l x0)]
  (.pex (.l x0) 0
  (.pex (.l x1) 1
  (.sm q73 (.l x1)
  (.sm q22 (.l x0)
  .fin)))))))
 (.seq (.regc (.pb .neq (.t q22) (.k (.int .i64 0))
  .fin) (.l x0) (.seq (.reg (.gen ⟨.push,.build [(.int .i64 0),(.int .i64 0),.snil] [],none⟩
  (.gen ⟨.push,.move (.t q22),none⟩
  (.st 3 (.t q42) (.l x1)
  (.sm q52 (.k .snil)
  (.sm q62 (.l x0)
  .fin))))))
 .ret) .skip)
 (.seq (.reg (.pca q012 [(.t q73)]
  (.pex (.l x0) 0
  (.pex (.l x1) 1
  (.gen ⟨.push,.box (.k (.agg [(.bool false),.snil,(.bool false),.snil])),none⟩
  (.sm q43 (.l x2)
  (.st 4 (.l x0) (.l x1)
  .fin)))))))
 (.seq (.reg (.pca q112 [(.t q43)]
  (.pex (.l x0) 0
  (.pex (.l x1) 1
  (.pex (.l x2) 2
  (.gen ⟨.push,.box (.k (.agg [(.bool false),.snil])),none⟩
  (.st 2 (.l x0) (.l x3)
  (.sm q03 (.l x2)
  (.sm q22 (.l x1)
  .fin)))))))))
 (.seq (.regc (.pb .neq (.t q22) (.k (.int .i64 0))
  .fin) (.l x0) (.seq (.reg (.gen ⟨.push,.build [(.int .i64 0),(.int .i64 0),.snil] [],none⟩
  (.gen ⟨.push,.move (.t q22),none⟩
  (.st 3 (.t q42) (.l x1)
  (.sm q52 (.k .snil)
  (.sm q62 (.l x0)
  .fin))))))
 .ret) .skip)
 (.regc (.pln (.t q03)
  (.pb .eql (.l x0) (.k (.int .i64 0))
  (.gen ⟨.push,.move (.t q03),some ((.l x0),false)⟩
  (.gen ⟨.push,.len (.l x0),some ((.l x1),false)⟩
  (.gen ⟨.push,.bin .eql (.l x0) (.k (.int .i64 1)),some ((.l x2),false)⟩
  (.gen ⟨.push,.move (.l x0),some ((.l x3),false)⟩
  (.gen ⟨.push,.move (.t q03),some ((.l x0),true)⟩
  (.gen ⟨.push,.iaddr 2 (.l x0) (.k (.int .i64 0)),some ((.l x1),true)⟩
  (.gen ⟨.push,.faddr 1 (.l x0),some ((.l x2),true)⟩
  (.gen ⟨.push,.load false 1 (.l x0),some ((.l x3),true)⟩
  (.gen ⟨.push,.bin .eql (.l x0) (.k (.int .i64 1)),some ((.l x4),true)⟩
  (.gen ⟨.push,.pick (.l x5) (.l x0) (.k (.bool false)),some ((.l x9),false)⟩
  (.gen ⟨.push,.pick (.l x10) (.k (.bool true)) (.l x0),none⟩
  .fin))))))))))))) (.l x0) (.seq (.reg (.pld true 3 (.t q4)
  (.st 3 (.t q42) (.l x0)
  (.sm q52 (.t q43)
  (.sm q62 (.k (.int .i64 0))
  .fin)))))
 .ret) .skip))))))))))))
 (.reg (.pb .add (.t q02) (.k (.int .i64 1))
  (.sm q02 (.l x0)
  .fin))))))))))))),[(q42,some (true,3)),(q52,none),(q62,none)],[]⟩
def c66 : CFn := ⟨[some q4,some q25,some q35],(.seq (.reg (.gen ⟨(.slot q50),.box (.t q25),none⟩
  (.sm q0 (.k (.int .i64 0))
  .fin)))
 (.seq (.reg (.pca q212 [(.t q35)]
  (.pex (.l x0) 0
  (.pex (.l x1) 1
  (.pex (.l x2) 2
  (.gen ⟨.push,.box (.k (.agg [(.bool false),.snil])),none⟩
  (.st 2 (.l x0) (.l x3)
  (.sm q05 (.l x2)
  (.sm q15 (.l x1)
  .fin)))))))))
 (.seq (.regc (.pb .neq (.t q15) (.k (.int .i64 0))
  .fin) (.l x0) (.seq (.reg (.sm q0 (.t q15)
  .fin))
 .ret) .skip)
 (.seq (.seq (.reg (.sm q44 (.t q05)
  (.gen ⟨(.slot q64),.len (.t q44),none⟩
  (.sm q1 (.k (.int .i64 0))
  .fin))))
 (.block 0 (.loop (.seq (.regc (.pb .lss (.t q1) (.t q64)
  .fin) (.l x0) .skip (.exit 0))
 (.seq (.block 1 (.seq (.reg (.pia 2 (.t q44) (.t q1)
  (.pld true 2 (.l x0)
  (.gen ⟨(.slot q5),.box (.k (.agg [.snil,(.int .i64 0)])),none⟩
  (.st 2 (.t q5) (.l x0)
  .fin)))))
 (.regc (.pfa 0 (.t q5)
  (.pld false 1 (.l x0)
  (.pca q64 [(.l x0)]
  (.pb .gtr (.l x0) (.k (.int .i64 12))
  .fin)))) (.l x0) (.seq (.reg (.sm q0 (.k (.int .i64 7))
  .fin))
 .ret) .skip)))
 (.reg (.pb .add (.t q1) (.k (.int .i64 1))
  (.sm q1 (.l x0)
  .fin))))))))
 (.seq (.seq (.reg (.sm q54 (.t q05)
  (.gen ⟨(.slot q74),.len (.t q54),none⟩
  (.sm q2 (.k (.int .i64 0))
  .fin))))
 (.block 2 (.loop (.seq (.regc (.pb .lss (.t q2) (.t q74)
  .fin) (.l x0) .skip (.exit 2))
 (.seq (.block 3 (.seq (.reg (.pia 2 (.t q54) (.t q2)
  (.pld true 2 (.l x0)
  (.gen ⟨(.slot q3),.box (.k (.agg [.snil,(.int .i64 0)])),none⟩
  (.st 2 (.t q3) (.l x0)
  .fin)))))
 (.seq (.regd [(⟨(.slot q70),.faddr 0 (.t q3),none⟩,⟨0,0,0⟩),
  (⟨(.slot q01),.load false 1 (.t q70),none⟩,⟨1,0,0⟩),
  (⟨(.slot q11),.call q412 [(.t q01)],none⟩,⟨3,0,1⟩),
  (⟨(.slot q21),.load true 3 (.t q50),none⟩,⟨1,0,1⟩),
  (⟨(.slot q31),.call q312 [(.t q11),(.t q21)],none⟩,⟨3,1,2⟩),
  (⟨(.slot q30),.move (.t q31),none⟩,⟨0,2,2⟩),
  (⟨(.slot q41),.extract (.t q30) 0,none⟩,⟨0,2,2⟩),
  (⟨(.slot q51),.extract (.t q30) 1,none⟩,⟨0,2,3⟩),
  (⟨(.slot q6),.box (.k (.agg [(.int .i64 0),(.int .i64 0),.snil])),none⟩,⟨2,0,2⟩),
  (⟨.drop,.store 3 (.t q6) (.t q41),none⟩,⟨3,2,3⟩),
  (⟨(.slot q),.move (.t q51),none⟩,⟨0,3,3⟩)])
 (.seq (.regc (.pb .neq (.t q) (.k (.int .i64 0))
  .fin) (.l x0) (.seq (.reg (.sm q0 (.t q)
  .fin))
 .ret) .skip)
 (.seq (.reg (.pld true 3 (.t q6)
  (.pca q761 [(.l x0)]
  (.pex (.l x0) 0
  (.pex (.l x1) 1
  (.gen ⟨(.slot q7),.box (.k (.agg [(.int .i64 0),(.int .i64 0),.snil])),none⟩
  (.st 3 (.t q7) (.l x1)
  .fin)))))))
 (.seq (.regd [(⟨(.slot q61),.load true 3 (.t q7),none⟩,⟨1,0,0⟩),
  (⟨(.slot q71),.move (.t q4),none⟩,⟨0,0,0⟩),
  (⟨(.slot q02),.nilc (.t q71),none⟩,⟨0,0,0⟩),
  (⟨(.slot q12),.faddr 4 (.t q02),none⟩,⟨0,0,0⟩),
  (⟨(.slot q22),.faddr 1 (.t q12),none⟩,⟨0,0,0⟩),
  (⟨(.slot q32),.load true 3 (.t q22),none⟩,⟨1,0,0⟩),
  (⟨(.slot q42),.call q371 [(.t q61),(.t q32)],none⟩,⟨3,0,1⟩),
  (⟨(.slot q40),.move (.t q42),none⟩,⟨0,1,1⟩),
  (⟨(.slot q52),.extract (.t q40) 0,none⟩,⟨0,1,1⟩),
  (⟨(.slot q62),.extract (.t q40) 1,none⟩,⟨0,1,2⟩),
  (⟨(.slot q00),.box (.k (.agg [(.int .i64 0),(.int .i64 0),.snil])),none⟩,⟨2,0,1⟩),
  (⟨.drop,.store 3 (.t q00) (.t q52),none⟩,⟨3,1,2⟩),
  (⟨.drop,.move (.t q62),none⟩,⟨0,2,2⟩)])
 (.seq (.reg (.pld true 3 (.t q00)
  (.pca q512 [(.l x0)]
  (.pex (.l x0) 0
  (.pex (.l x1) 1
  (.gen ⟨(.slot q10),.box (.k (.agg [(.int .i64 0),(.int .i64 0),(.int .i64 0),.snil])),none⟩
  (.st 4 (.t q10) (.l x1)
  (.sm q (.l x0)
  .fin))))))))
 (.seq (.regc (.pb .neq (.t q) (.k (.int .i64 0))
  .fin) (.l x0) (.seq (.reg (.sm q0 (.t q)
  .fin))
 .ret) .skip)
 (.seq (.reg (.pld true 3 (.t q50)
  (.pfa 0 (.t q3)
  (.pld false 1 (.l x0)
  (.pca q612 [(.l x2),(.l x0)]
  (.pex (.l x0) 0
  (.pex (.l x1) 1
  (.pex (.l x2) 2
  (.gen ⟨(.slot q20),.box (.k (.agg [.snil])),none⟩
  (.st 1 (.t q20) (.l x2)
  (.sm q60 (.l x1)
  (.sm q (.l x0)
  .fin))))))))))))
 (.seq (.regc (.pb .neq (.t q) (.k (.int .i64 0))
  .fin) (.l x0) (.seq (.reg (.sm q0 (.t q)
  .fin))
 .ret) .skip)
 (.regd [(⟨(.slot q72),.move (.t q4),none⟩,⟨0,0,1⟩),
  (⟨(.slot q03),.move (.t q4),none⟩,⟨0,0,0⟩),
  (⟨(.slot q13),.nilc (.t q03),none⟩,⟨0,0,0⟩),
  (⟨(.slot q23),.faddr 9 (.t q13),none⟩,⟨0,0,0⟩),
  (⟨(.slot q33),.load false 1 (.t q23),none⟩,⟨1,0,0⟩),
  (⟨(.slot q43),.load true 1 (.t q20),none⟩,⟨1,0,0⟩),
  (⟨(.slot q53),.load true 4 (.t q10),none⟩,⟨1,0,0⟩),
  (⟨(.slot q63),.move (.t q60),none⟩,⟨0,0,0⟩),
  (⟨(.slot q73),.build [.snil,(.int .i64 0),(.int .i64 0),(.int .i64 0),.snil,.snil] [(0,1,(.t q43)),(1,4,(.t q53)),(5,1,(.t q63))],none⟩,⟨0,0,0⟩),
  (⟨(.slot q04),.bsl 6 1 [.snil,(.int .i64 0),(.int .i64 0),(.int .i64 0),.snil,.snil] [(0,(.t q73))],none⟩,⟨2,0,0⟩),
  (⟨(.slot q14),.append 6 96 (.t q33) (.t q04),none⟩,⟨3,0,1⟩),
  (⟨(.slot q24),.nilc (.t q72),none⟩,⟨0,1,1⟩),
  (⟨(.slot q34),.faddr 9 (.t q24),none⟩,⟨0,1,1⟩),
  (⟨.drop,.store 1 (.t q34) (.t q14),none⟩,⟨3,1,2⟩)])))))))))))
 (.reg (.pb .add (.t q2) (.k (.int .i64 1))
  (.sm q2 (.l x0)
  .fin))))))))
 (.seq (.reg (.sm q0 (.k (.int .i64 0))
  .fin))
 .ret)))))),[(q0,none)],[]⟩
def c67 : CFn := ⟨[some q1],(.seq (.reg (.gen ⟨(.slot q2),.box (.k (.agg [(.bool false),.snil])),none⟩
  .fin))
 (.seq (.reg (.pcv .u64 (.t q1)
  (.sm q (.l x0)
  .fin)))
 (.seq (.regc (.pb .lss (.t q1) (.k (.int .i64 0))
  .fin) (.l x0) (.reg (.gen ⟨.push,.un .neg (.t q),none⟩
  (.sm q (.l x0)
  .fin))) .skip)
 (.seq (.reg (.pb .lss (.t q1) (.k (.int .i64 0))
  (.gen ⟨.push,.build [(.bool false),.snil] [(0,1,(.l x0))],none⟩
  (.gen ⟨(.slot q0),.box (.k (.agg [(.bool false),.snil])),none⟩
  (.st 2 (.t q0) (.l x0)
  .fin)))))
 (.seq (.block 0 (.loop (.seq (.regc (.pb .gtr (.t q) (.k (.int .u64 0))
  .fin) (.l x0) .skip (.exit 0))
 (.block 1 (.seq (.reg (.pfa 1 (.t q0)
  (.pld false 1 (.l x0)
  (.pcv .u32 (.t q)
  (.gen ⟨.push,.bsl 1 1 [(.int .u32 0)] [(0,(.l x0))],none⟩
  (.gen ⟨.push,.append 1 4 (.l x2) (.l x0),none⟩
  (.pfa 1 (.t q0)
  (.st 1 (.l x0) (.l x1)
  .fin))))))))
 (.reg (.pb .shr (.t q) (.k (.int .u64 32))
  (.sm q (.l x0)
  .fin))))))))
 (.seq (.reg (.pld true 2 (.t q0)
  (.st 2 (.t q2) (.l x0)
  .fin)))
 .ret)))))),[(q2,some (true,2))],[]⟩
def c68 : CFn := ⟨[some q],(.seq (.reg (.sm q0 (.k .snil)
  .fin))
 (.seq (.block 0 (.loop (.seq (.regc (.pln (.t q)
  (.pb .gtr (.l x0) (.k (.int .i64 0))
  (.gen ⟨.push,.move (.t q),some ((.l x0),true)⟩
  (.gen ⟨.push,.move (.t q),some ((.l x1),true)⟩
  (.gen ⟨.push,.len (.l x0),some ((.l x2),true)⟩
  (.gen ⟨.push,.bin .sub (.l x0) (.k (.int .i64 1)),some ((.l x3),true)⟩
  (.gen ⟨.push,.iaddr 2 (.l x3) (.l x0),some ((.l x4),true)⟩
  (.gen ⟨.push,.faddr 1 (.l x0),some ((.l x5),true)⟩
  (.gen ⟨.push,.load false 1 (.l x0),some ((.l x6),true)⟩
  (.gen ⟨.push,.len (.l x0),some ((.l x7),true)⟩
  (.gen ⟨.push,.bin .eql (.l x0) (.k (.int .i64 0)),some ((.l x8),true)⟩
  (.gen ⟨.push,.pick (.l x9) (.l x0) (.k (.bool false)),none⟩
  .fin)))))))))))) (.l x0) .skip (.exit 0))
 (.block 1 (.reg (.pln (.t q)
  (.pb .sub (.l x0) (.k (.int .i64 1))
  (.gen ⟨.push,.slc 2 (.t q) none (some (.l x0)),none⟩
  (.sm q (.l x0)
  .fin)))))))))
 (.seq (.reg (.sm q0 (.t q)
  .fin))
 .ret))),[(q0,none)],[]⟩
def c69 : CFn := ⟨[some q0],(.seq (.reg (.sm q (.k (.bool false))
  .fin))
 (.seq (.reg (.pb .geq (.t q0) (.k (.int .i64 1))
  (.gen ⟨.push,.move (.t q0),some ((.l x0),true)⟩
  (.gen ⟨.push,.bin .leq (.l x0) (.k (.int .i64 2147483647)),some ((.l x1),true)⟩
  (.gen ⟨.push,.pick (.l x2) (.l x0) (.k (.bool false)),none⟩
  (.sm q (.l x0)
  .fin))))))
 .ret)),[(q,none)],[]⟩
def c70 : CFn := ⟨[some q,some q2],(.seq (.reg (.sm q0 (.k (.int .i64 2))
  .fin))
 (.block 0 (.loop (.seq (.regc (.pb .gtr (.t q) (.k (.int .i64 1))
  .fin) (.l x0) .skip (.exit 0))
 (.seq (.block 1 (.seq (.regc (.pb .mul (.t q0) (.t q0)
  (.pb .gtr (.l x0) (.t q)
  .fin)) (.l x0) (.reg (.sm q0 (.t q)
  .fin)) .skip)
 (.seq (.reg (.sm q1 (.k (.int .i64 0))
  .fin))
 (.seq (.block 2 (.loop (.seq (.regc (.pb .rem (.t q) (.t q0)
  (.pb .eql (.l x0) (.k (.int .i64 0))
  .fin)) (.l x0) .skip (.exit 2))
 (.seq (.block 3 (.reg (.pb .add (.t q1) (.k (.int .i64 1))
  (.sm q1 (.l x0)
  .fin))))
 (.reg (.pb .quo (.t q) (.t q0)
  (.sm q (.l x0)
  .fin)))))))
 (.regc (.pb .gtr (.t q1) (.k (.int .i64 0))
  .fin) (.l x0) (.reg (.gen ⟨.push,.callv (.t q2) [(.t q0),(.t q1)],none⟩
  .fin)) .skip)))))
 (.reg (.pb .add (.t q0) (.k (.int .i64 1))
  (.sm q0 (.l x0)
  .fin)))))))),[],[]⟩
def c71 : CFn := ⟨[some q0,some q1,some q],(.reg (.pld false 1 (.t q)
  (.gen ⟨.push,.build [(.int .i64 0),(.int .i64 0)] [(0,1,(.t q0)),(1,1,(.t q1))],none⟩
  (.gen ⟨.push,.bsl 2 1 [(.int .i64 0),(.int .i64 0)] [(0,(.l x0))],none⟩
  (.gen ⟨.push,.append 2 16 (.l x2) (.l x0),none⟩
  (.st 1 (.t q) (.l x0)
  .fin)))))),[],[]⟩
def c72 : CFn := ⟨[some q31],(.seq (.reg (.gen ⟨(.slot q5),.box (.t q31),none⟩
  (.sm q1 (.k .pnil)
  (.sm q2 (.k (.int .i64 0))
  .fin))))
 (.seq (.reg (.pfa 0 (.t q5)
  (.pld false 1 (.l x0)
  (.pca q63 [(.l x0)]
  (.pca q412 [(.l x0)]
  (.sm q3 (.l x0)
  .fin))))))
 (.seq (.reg (.pln (.t q3)
  (.pb .sub (.l x0) (.k (.int .i64 1))
  (.sm q0 (.l x0)
  .fin))))
 (.seq (.seq (.regd [(⟨(.slot q6),.move (.t q0),none⟩,⟨0,0,0⟩),
  (⟨(.slot q7),.bin .lss (.t q6) (.k (.int .i64 1)),none⟩,⟨0,0,0⟩),
  (⟨(.slot q4),.move (.t q7),none⟩,⟨0,0,0⟩),
  (⟨(.slot q00),.move (.t q0),some ((.t q4),false)⟩,⟨0,0,0⟩),
  (⟨(.slot q10),.bin .gtr (.t q00) (.k (.int .i64 12)),some ((.t q4),false)⟩,⟨0,0,0⟩),
  (⟨(.slot q20),.pick (.t q4) (.k (.bool true)) (.t q10),none⟩,⟨0,0,0⟩),
  (⟨(.slot q),.move (.t q20),none⟩,⟨0,0,0⟩),
  (⟨(.slot q30),.move (.t q3),some ((.t q),false)⟩,⟨0,0,1⟩),
  (⟨(.slot q40),.move (.t q0),some ((.t q),false)⟩,⟨0,0,1⟩),
  (⟨(.slot q50),.iaddr 4 (.t q30) (.t q40),some ((.t q),false)⟩,⟨0,0,1⟩),
  (⟨(.slot q60),.load true 4 (.t q50),some ((.t q),false)⟩,⟨1,0,1⟩),
  (⟨(.slot q70),.call q24 [(.k (.int .i64 1))],some ((.t q),false)⟩,⟨3,0,1⟩),
  (⟨(.slot q01),.call q712 [(.t q60),(.t q70)],some ((.t q),false)⟩,⟨3,1,2⟩),
  (⟨(.slot q11),.bin .neq (.t q01) (.k (.int .i64 0)),some ((.t q),false)⟩,⟨0,2,2⟩),
  (⟨(.slot q21),.pick (.t q) (.k (.bool true)) (.t q11),none⟩,⟨0,2,2⟩)])
 (.cond (.t q21) (.seq (.reg (.sm q1 (.k .pnil)
  (.sm q2 (.k (.int .i64 3))
  .fin)))
 .ret) .skip))
 (.seq (.reg (.gen ⟨.push,.build [.snil,(.int .i64 0)] [(0,1,(.t q3)),(1,1,(.t q0))],none⟩
  (.gen ⟨.push,.box (.l x0),none⟩
  (.sm q1 (.l x0)
  (.sm q2 (.k (.int .i64 0))
  .fin)))))
 .ret))))),[(q1,none),(q2,none)],[]⟩
def c73 : CFn := ⟨[some q1,some q2],(.seq (.reg (.sm q (.k .snil)
  .fin))
 (.seq (.reg (.gen ⟨.push,.nilc (.t q1),none⟩
  (.pfa 0 (.l x0)
  (.pld false 1 (.l x0)
  (.pca q022 [(.t q2),(.l x0)]
  (.pex (.l x0) 0
  (.pex (.l x1) 1
  (.pex (.l x2) 2
  (.sm q0 (.l x1)
  .fin)))))))))
 (.seq (.reg (.sm q (.t q0)
  .fin))
 .ret))),[(q,none)],[]⟩
def c74 : CFn := ⟨[some q0],(.seq (.reg (.gen ⟨(.slot q),.box (.k (.agg [(.bool false),.snil])),none⟩
  .fin))
 (.seq (.regc (.pb .lss (.t q0) (.k (.int .i64 0))
  .fin) (.l x0) (.seq (.reg (.pcv .u64 (.t q0)
  (.gen ⟨.push,.un .neg (.l x0),none⟩
  (.pca q122 [(.l x0)]
  (.pca q031 [(.k (.bool true)),(.l x0)]
  (.st 2 (.t q) (.l x0)
  .fin))))))
 .ret) .skip)
 (.seq (.reg (.pcv .u64 (.t q0)
  (.pca q122 [(.l x0)]
  (.pca q031 [(.k (.bool false)),(.l x0)]
  (.st 2 (.t q) (.l x0)
  .fin)))))
 .ret))),[(q,some (true,2))],[]⟩
def c75 : CFn := ⟨[some q60,some q70,some q01],(.seq (.reg (.gen ⟨(.slot q3),.box (.t q70),none⟩
  (.sm q1 (.k .snil)
  (.sm q2 (.k (.int .i64 0))
  .fin))))
 (.seq (.reg (.pca q202 [(.t q60),(.t q01)]
  (.pex (.l x0) 0
  (.pex (.l x1) 1
  (.gen ⟨(.slot q4),.box (.k (.agg [(.int .i64 0),(.int .i64 0),.snil])),none⟩
  (.st 3 (.t q4) (.l x1)
  (.sm q50 (.l x0)
  .fin)))))))
 (.seq (.regc (.pb .neq (.t q50) (.k (.int .i64 0))
  .fin) (.l x0) (.seq (.reg (.gen ⟨.push,.move (.t q50),none⟩
  (.sm q1 (.k .snil)
  (.sm q2 (.l x0)
  .fin))))
 .ret) .skip)
 (.seq (.reg (.pfa 5 (.t q3)
  (.pld false 1 (.l x0)
  (.pca q222 [(.l x0),(.k (.fnv q322 []))]
  (.sm q30 (.l x0)
  .fin)))))
 (.seq (.reg (.sm q5 (.k .snil)
  .fin))
 (.seq (.seq (.reg (.pfa 5 (.t q3)
  (.gen ⟨(.slot q20),.load false 1 (.l x0),none⟩
  (.gen ⟨(.slot q40),.len (.t q20),none⟩
  (.sm q0 (.k (.int .i64 0))
  .fin)))))
 (.block 0 (.loop (.seq (.regc (.pb .lss (.t q0) (.t q40)
  .fin) (.l x0) .skip (.exit 0))
 (.seq (.block 1 (.seq (.reg (.pia 1 (.t q20) (.t q0)
  (.pld false 1 (.l x0)
  (.sm q6 (.t q0)
  (.sm q7 (.l x0)
  .fin)))))
 (.seq (.reg (.pfa 2 (.t q4)
  (.pld false 1 (.l x0)
  (.pfa 1 (.t q4)
  (.pld false 1 (.l x0)
  (.pb .mul (.t q6) (.l x0)
  (.pb .add (.l x0) (.t q30)
  (.pia 4 (.l x4) (.l x0)
  (.pld true 4 (.l x0)
  (.gen ⟨.push,.bsl 4 1 [(.bool false),.snil,(.bool false),.snil] [(0,(.l x0))],none⟩
  (.sm q00 (.l x0)
  .fin)))))))))))
 (.seq (.reg (.pfa 0 (.t q3)
  (.pld true 1 (.l x0)
  (.pca q44 [(.l x0),(.t q7),(.t q00)]
  (.pex (.l x0) 0
  (.pex (.l x1) 1
  (.sm q10 (.l x1)
  (.sm q (.l x0)
  .fin))))))))
 (.seq (.regc (.pb .neq (.t q) (.k (.int .i64 0))
  .fin) (.l x0) (.seq (.reg (.gen ⟨.push,.move (.t q),none⟩
  (.sm q1 (.k .snil)
  (.sm q2 (.l x0)
  .fin))))
 .ret) .skip)
 (.seq (.reg (.pfa 0 (.t q3)
  (.pld true 1 (.l x0)
  (.pca q422 [(.l x0),(.t q5),(.t q10)]
  (.pex (.l x0) 0
  (.pex (.l x1) 1
  (.sm q5 (.l x1)
  (.sm q (.l x0)
  .fin))))))))
 (.regc (.pb .neq (.t q) (.k (.int .i64 0))
  .fin) (.l x0) (.seq (.reg (.gen ⟨.push,.move (.t q),none⟩
  (.sm q1 (.k .snil)
  (.sm q2 (.l x0)
  .fin))))
 .ret) .skip)))))))
 (.reg (.pb .add (.t q0) (.k (.int .i64 1))
  (.sm q0 (.l x0)
  .fin))))))))
 (.seq (.reg (.sm q1 (.t q5)
  (.sm q2 (.k (.int .i64 0))
  .fin)))
 .ret))))))),[(q1,none),(q2,none)],[]⟩
def c76 : CFn := ⟨[some q00,some q],(.seq (.reg (.gen ⟨(.slot q0),.box (.t q00),none⟩
  (.gen ⟨(.slot q1),.box (.k (.agg [(.bool false),.snil,(.bool false),.snil])),none⟩
  (.sm q2 (.k (.int .i64 0))
  .fin))))
 (.seq (.reg (.pld true 4 (.t q0)
  (.pca q77 [(.l x0)]
  (.st 4 (.t q0) (.l x0)
  .fin))))
 (.seq (.regc (.pb .lss (.t q) (.k (.int .i64 0))
  (.gen ⟨.push,.faddr 0 (.t q0),some ((.l x0),true)⟩
  (.gen ⟨.push,.faddr 1 (.l x0),some ((.l x1),true)⟩
  (.gen ⟨.push,.load false 1 (.l x0),some ((.l x2),true)⟩
  (.gen ⟨.push,.len (.l x0),some ((.l x3),true)⟩
  (.gen ⟨.push,.bin .eql (.l x0) (.k (.int .i64 0)),some ((.l x4),true)⟩
  (.gen ⟨.push,.pick (.l x5) (.l x0) (.k (.bool false)),none⟩
  .fin))))))) (.l x0) (.seq (.reg (.gen ⟨.push,.build [(.bool false),.snil,(.bool false),.snil] [],none⟩
  (.st 4 (.t q1) (.l x0)
  (.sm q2 (.k (.int .i64 5))
  .fin))))
 .ret) .skip)
 (.seq (.reg (.pld true 4 (.t q0)
  (.pca q522 [(.l x0)]
  (.sm q5 (.l x0)
  .fin))))
 (.seq (.regc (.pb .leq (.t q5) (.k (.int .i64 1))
  .fin) (.l x0) (.seq (.reg (.sm q6 (.k (.int .i64 0))
  .fin))
 (.seq (.regc (.pb .neq (.t q) (.k (.int .i64 0))
  .fin) (.l x0) (.reg (.pb .rem (.t q) (.k (.int .i64 2))
  (.pb .add (.k (.int .i64 2)) (.l x0)
  (.sm q6 (.l x0)
  .fin)))) .skip)
 (.seq (.reg (.pfa 0 (.t q0)
  (.pld true 2 (.l x0)
  (.pca q622 [(.l x0),(.t q6)]
  (.pex (.l x0) 0
  (.pex (.l x1) 1
  (.gen ⟨(.slot q7),.box (.k (.agg [(.bool false),.snil])),none⟩
  (.st 2 (.t q7) (.l x1)
  .fin))))))))
 (.seq (.reg (.pld true 2 (.t q7)
  (.pca q502 [(.l x0)]
  (.st 4 (.t q1) (.l x0)
  (.sm q2 (.k (.int .i64 0))
  .fin)))))
 .ret)))) .skip)
 (.seq (.regc (.pb .quo (.k (.int .i64 1048576)) (.t q5)
  (.pb .gtr (.t q) (.l x0)
  (.gen ⟨.push,.move (.t q),some ((.l x0),false)⟩
  (.gen ⟨.push,.move (.t q5),some ((.l x1),false)⟩
  (.gen ⟨.push,.bin .quo (.k (.int .i64 1048576)) (.l x0),some ((.l x2),false)⟩
  (.gen ⟨.push,.un .neg (.l x0),some ((.l x3),false)⟩
  (.gen ⟨.push,.bin .lss (.l x3) (.l x0),some ((.l x4),false)⟩
  (.gen ⟨.push,.pick (.l x5) (.k (.bool true)) (.l x0),none⟩
  .fin)))))))) (.l x0) (.seq (.reg (.gen ⟨.push,.build [(.bool false),.snil,(.bool false),.snil] [],none⟩
  (.st 4 (.t q1) (.l x0)
  (.sm q2 (.k (.int .i64 7))
  .fin))))
 .ret) .skip)
 (.seq (.reg (.pfa 0 (.t q0)
  (.pld true 2 (.l x0)
  (.gen ⟨.push,.un .neg (.t q),none⟩
  (.gen ⟨.push,.max [(.t q),(.l x0)],none⟩
  (.pca q622 [(.l x2),(.l x0)]
  (.pex (.l x0) 0
  (.pex (.l x1) 1
  (.gen ⟨(.slot q3),.box (.k (.agg [(.bool false),.snil])),none⟩
  (.st 2 (.t q3) (.l x1)
  .fin))))))))))
 (.seq (.reg (.pfa 2 (.t q0)
  (.pld true 2 (.l x0)
  (.gen ⟨.push,.un .neg (.t q),none⟩
  (.gen ⟨.push,.max [(.t q),(.l x0)],none⟩
  (.pca q622 [(.l x2),(.l x0)]
  (.pex (.l x0) 0
  (.pex (.l x1) 1
  (.gen ⟨(.slot q4),.box (.k (.agg [(.bool false),.snil])),none⟩
  (.st 2 (.t q4) (.l x1)
  .fin))))))))))
 (.seq (.regc (.pb .lss (.t q) (.k (.int .i64 0))
  .fin) (.l x0) (.reg (.pld true 2 (.t q4)
  (.pld true 2 (.t q3)
  (.st 2 (.t q3) (.l x1)
  (.st 2 (.t q4) (.l x0)
  .fin))))) .skip)
 (.seq (.reg (.pld true 2 (.t q3)
  (.pld true 2 (.t q4)
  (.pca q331 [(.l x1),(.l x0)]
  (.st 4 (.t q1) (.l x0)
  (.sm q2 (.k (.int .i64 0))
  .fin))))))
 .ret)))))))))),[(q1,some (true,4)),(q2,none)],[]⟩
def c77 : CFn := ⟨[some q0,some q1],(.seq (.reg (.sm q (.k (.int .i64 0))
  .fin))
 (.seq (.regc (.gen ⟨.push,.nilc (.t q0),none⟩
  (.pfa 0 (.l x0)
  (.pfa 0 (.l x0)
  (.pld false 1 (.l x0)
  (.pb .rem (.l x0) (.t q1)
  (.pb .eql (.l x0) (.k (.int .i64 0))
  .fin)))))) (.l x0) (.seq (.reg (.sm q (.k (.int .i64 0))
  .fin))
 .ret) .skip)
 (.seq (.reg (.gen ⟨.push,.nilc (.t q0),none⟩
  (.pfa 0 (.l x0)
  (.pfa 2 (.l x0)
  (.pld false 1 (.l x0)
  (.pca q66 [(.l x0),(.t q1)]
  (.sm q (.l x0)
  .fin)))))))
 .ret))),[(q,none)],[]⟩
def c78 : CFn := ⟨[some q4,some q5,some q6],(.seq (.reg (.gen ⟨(.slot q2),.box (.t q4),none⟩
  (.sm q (.k .snil)
  (.sm q0 (.k (.int .i64 0))
  .fin))))
 (.seq (.reg (.pld true 1 (.t q2)
  (.pca q011 [(.l x0)]
  (.pex (.l x0) 0
  (.pex (.l x1) 1
  (.sm q3 (.l x1)
  (.sm q1 (.l x0)
  .fin)))))))
 (.seq (.regc (.pb .neq (.t q1) (.k (.int .i64 0))
  .fin) (.l x0) (.seq (.reg (.gen ⟨.push,.move (.t q1),none⟩
  (.sm q (.k .snil)
  (.sm q0 (.l x0)
  .fin))))
 .ret) .skip)
 (.seq (.reg (.pca q722 [(.t q5),(.t q6)]
  (.pca q111 [(.t q3),(.l x0)]
  (.sm q (.l x0)
  (.sm q0 (.k (.int .i64 0))
  .fin)))))
 .ret)))),[(q,none),(q0,none)],[]⟩
def c79 : CFn := ⟨[some q0,some q1,some q2],(.seq (.reg (.sm q (.k .snil)
  .fin))
 (.seq (.reg (.pca q032 [(.t q1),(.t q2)]
  (.pca q111 [(.t q0),(.l x0)]
  (.sm q (.l x0)
  .fin))))
 .ret)),[(q,none)],[]⟩
def c82 : CFn := ⟨[some q1],(.seq (.reg (.gen ⟨(.slot q0),.box (.t q1),none⟩
  (.sm q (.k (.int .i64 0))
  .fin)))
 (.seq (.block 0 (.regc (.pfa 1 (.t q0)
  (.pld false 1 (.l x0)
  (.pca q231 [(.l x0)]
  (.pln (.l x0)
  (.pb .eql (.l x0) (.k (.int .i64 0))
  .fin))))) (.l x0) (.seq (.reg (.sm q (.k (.int .i64 0))
  .fin))
 .ret) (.regc (.pfa 0 (.t q0)
  (.pld false 1 (.l x0)
  .fin)) (.l x0) (.seq (.reg (.sm q (.k (.int .i64 (-1)))
  .fin))
 .ret) .skip)))
 (.seq (.reg (.sm q (.k (.int .i64 1))
  .fin))
 .ret))),[(q,none)],[]⟩
def c83 : CFn := ⟨[some q0],(.seq (.reg (.sm q (.k (.int .i64 0))
  .fin))
 (.seq (.regc (.pb .lss (.t q0) (.k (.int .i64 1))
  (.gen ⟨.push,.move (.t q0),some ((.l x0),false)⟩
  (.gen ⟨.push,.bin .gtr (.l x0) (.k (.int .i64 120)),some ((.l x1),false)⟩
  (.gen ⟨.push,.pick (.l x2) (.k (.bool true)) (.l x0),none⟩
  .fin)))) (.l x0) (.seq (.reg (.sm q (.k (.int .i64 2))
  .fin))
 .ret) .skip)
 (.seq (.reg (.sm q (.k (.int .i64 0))
  .fin))
 .ret))),[(q,none)],[]⟩
def c84 : CFn := ⟨[some q4,some q1],(.seq (.reg (.sm q (.k (.int .i64 0))
  (.sm q0 (.k (.int .i64 0))
  .fin)))
 (.seq (.regc (.pca q501 [(.t q1)]
  (.gen ⟨.push,.un .not (.l x0),none⟩
  .fin)) (.l x0) (.seq (.reg (.sm q (.k (.int .i64 0))
  (.sm q0 (.k (.int .i64 2))
  .fin)))
 .ret) .skip)
 (.seq (.reg (.pca q241 [(.t q4),(.t q1)]
  (.pca q332 [(.l x0),(.t q1)]
  (.pex (.l x0) 0
  (.pex (.l x1) 1
  (.pex (.l x2) 2
  (.pex (.l x3) 3
  (.sm q2 (.l x3)
  (.sm q3 (.l x2)
  .fin)))))))))
 (.seq (.regc (.pb .neq (.t q2) (.k (.int .i64 1))
  .fin) (.l x0) (.seq (.reg (.sm q (.k (.int .i64 0))
  (.sm q0 (.k (.int .i64 9))
  .fin)))
 .ret) .skip)
 (.seq (.reg (.sm q (.t q3)
  (.sm q0 (.k (.int .i64 0))
  .fin)))
 .ret))))),[(q,none),(q0,none)],[]⟩
def c88 : CFn := ⟨[some q1,some q],(.seq (.reg (.gen ⟨(.slot q0),.box (.k (.agg [(.bool false),.snil])),none⟩
  .fin))
 (.seq (.reg (.pca q231 [(.t q)]
  (.sm q (.l x0)
  .fin)))
 (.seq (.reg (.gen ⟨.push,.move (.t q),some ((.t q1),true)⟩
  (.gen ⟨.push,.len (.l x0),some ((.t q1),true)⟩
  (.gen ⟨.push,.bin .gtr (.l x0) (.k (.int .i64 0)),some ((.t q1),true)⟩
  (.gen ⟨.push,.pick (.t q1) (.l x0) (.k (.bool false)),none⟩
  (.gen ⟨.push,.build [(.bool false),.snil] [(0,1,(.l x0)),(1,1,(.t q))],none⟩
  (.st 2 (.t q0) (.l x0)
  .fin)))))))
 .ret))),[(q0,some (true,2))],[]⟩
def c89 : CFn := ⟨[some q0],(.seq (.reg (.sm q (.k .snil)
  .fin))
 (.seq (.regc (.gen ⟨.push,.cmp 2 .eql (.t q0) (.k .snil),none⟩
  .fin) (.l x0) (.seq (.reg (.sm q (.k .snil)
  .fin))
 .ret) .skip)
 (.seq (.reg (.gen ⟨.push,.bsl 1 0 [(.int .u32 0)] [],none⟩
  (.gen ⟨.push,.append 1 4 (.l x0) (.t q0),none⟩
  (.sm q (.l x0)
  .fin))))
 .ret))),[(q,none)],[]⟩
def c90 : CFn := ⟨[some q],(.seq (.reg (.sm q0 (.k .snil)
  .fin))
 (.seq (.block 0 (.loop (.seq (.regc (.pln (.t q)
  (.pb .gtr (.l x0) (.k (.int .i64 0))
  (.gen ⟨.push,.move (.t q),some ((.l x0),true)⟩
  (.gen ⟨.push,.move (.t q),some ((.l x1),true)⟩
  (.gen ⟨.push,.len (.l x0),some ((.l x2),true)⟩
  (.gen ⟨.push,.bin .sub (.l x0) (.k (.int .i64 1)),some ((.l x3),true)⟩
  (.gen ⟨.push,.iaddr 1 (.l x3) (.l x0),some ((.l x4),true)⟩
  (.gen ⟨.push,.load false 1 (.l x0),some ((.l x5),true)⟩
  (.gen ⟨.push,.bin .eql (.l x0) (.k (.int .u32 0)),some ((.l x6),true)⟩
  (.gen ⟨.push,.pick (.l x7) (.l x0) (.k (.bool false)),none⟩
  .fin)))))))))) (.l x0) .skip (.exit 0))
 (.block 1 (.reg (.pln (.t q)
  (.pb .sub (.l x0) (.k (.int .i64 1))
  (.gen ⟨.push,.slc 1 (.t q) none (some (.l x0)),none⟩
  (.sm q (.l x0)
  .fin)))))))))
 (.seq (.reg (.sm q0 (.t q)
  .fin))
 .ret))),[(q0,none)],[]⟩
def c91 : CFn := ⟨[some q30,some q40],(.seq (.reg (.gen ⟨(.slot q0),.box (.t q30),none⟩
  (.gen ⟨(.slot q),.box (.t q40),none⟩
  (.gen ⟨(.slot q1),.box (.k (.agg [(.bool false),.snil,(.bool false),.snil])),none⟩
  .fin))))
 (.seq (.regd [(⟨(.slot q3),.load true 2 (.t q0),none⟩,⟨1,0,0⟩),
  (⟨(.slot q4),.call q45 [(.t q3)],none⟩,⟨3,0,1⟩),
  (⟨(.slot q5),.load true 2 (.t q),none⟩,⟨1,0,1⟩),
  (⟨(.slot q6),.call q45 [(.t q5)],none⟩,⟨3,1,2⟩),
  (⟨.drop,.store 2 (.t q0) (.t q4),none⟩,⟨3,2,3⟩),
  (⟨.drop,.store 2 (.t q) (.t q6),none⟩,⟨3,3,4⟩)])
 (.seq (.block 0 (.regc (.pfa 1 (.t q)
  (.pld false 1 (.l x0)
  (.pln (.l x0)
  (.pb .eql (.l x0) (.k (.int .i64 0))
  (.gen ⟨.push,.faddr 1 (.t q0),some ((.l x0),false)⟩
  (.gen ⟨.push,.load false 1 (.l x0),some ((.l x1),false)⟩
  (.gen ⟨.push,.len (.l x0),some ((.l x2),false)⟩
  (.gen ⟨.push,.bin .eql (.l x0) (.k (.int .i64 0)),some ((.l x3),false)⟩
  (.gen ⟨.push,.pick (.l x4) (.k (.bool true)) (.l x0),none⟩
  .fin))))))))) (.l x0) (.seq (.reg (.pca q211 [(.k (.int .i64 1))]
  (.gen ⟨.push,.build [(.bool false),.snil,(.bool false),.snil] [(2,2,(.l x0))],none⟩
  (.st 4 (.t q1) (.l x0)
  .fin))))
 .ret) (.regc (.pfa 0 (.t q)
  (.pld false 1 (.l x0)
  .fin)) (.l x0) (.regd [(⟨(.slot q7),.load true 2 (.t q0),none⟩,⟨1,0,0⟩),
  (⟨(.slot q00),.call q142 [(.t q7)],none⟩,⟨3,0,1⟩),
  (⟨(.slot q10),.load true 2 (.t q),none⟩,⟨1,0,1⟩),
  (⟨(.slot q20),.call q142 [(.t q10)],none⟩,⟨3,1,2⟩),
  (⟨.drop,.store 2 (.t q0) (.t q00),none⟩,⟨3,2,3⟩),
  (⟨.drop,.store 2 (.t q) (.t q20),none⟩,⟨3,3,4⟩)]) .skip)))
 (.seq (.regc (.pld true 2 (.t q)
  (.pca q041 [(.l x0)]
  .fin)) (.l x0) (.seq (.reg (.pld true 2 (.t q0)
  (.pld true 2 (.t q)
  (.gen ⟨.push,.build [(.bool false),.snil,(.bool false),.snil] [(0,2,(.l x1)),(2,2,(.l x0))],none⟩
  (.st 4 (.t q1) (.l x0)
  .fin)))))
 .ret) .skip)
 (.seq (.seq (.reg (.pld true 2 (.t q0)
  (.pld true 2 (.t q)
  (.pca q242 [(.l x1),(.l x0)]
  (.gen ⟨(.slot q2),.box (.k (.agg [(.bool false),.snil])),none⟩
  (.st 2 (.t q2) (.l x0)
  .fin))))))
 (.regc (.pld true 2 (.t q2)
  (.pca q041 [(.l x0)]
  (.gen ⟨.push,.un .not (.l x0),none⟩
  .fin))) (.l x0) (.seq (.reg (.pld true 2 (.t q0)
  (.pld true 2 (.t q2)
  (.pca q342 [(.l x1),(.l x0)]
  (.pex (.l x0) 0
  (.pex (.l x1) 1
  (.st 2 (.t q0) (.l x1)
  .fin)))))))
 (.reg (.pld true 2 (.t q)
  (.pld true 2 (.t q2)
  (.pca q342 [(.l x1),(.l x0)]
  (.pex (.l x0) 0
  (.pex (.l x1) 1
  (.st 2 (.t q) (.l x1)
  .fin)))))))) .skip))
 (.seq (.reg (.pld true 2 (.t q0)
  (.pld true 2 (.t q)
  (.gen ⟨.push,.build [(.bool false),.snil,(.bool false),.snil] [(0,2,(.l x1)),(2,2,(.l x0))],none⟩
  (.st 4 (.t q1) (.l x0)
  .fin)))))
 .ret)))))),[(q1,some (true,4))],[]⟩
def c92 : CFn := ⟨[some q70,some q01],(.seq (.reg (.gen ⟨(.slot q),.box (.t q70),none⟩
  (.gen ⟨(.slot q0),.box (.t q01),none⟩
  (.gen ⟨(.slot q1),.box (.k (.agg [(.bool false),.snil])),none⟩
  .fin))))
 (.seq (.regd [(⟨(.slot q2),.faddr 0 (.t q),none⟩,⟨0,0,3⟩),
  (⟨(.slot q3),.load false 1 (.t q2),none⟩,⟨1,0,3⟩),
  (⟨(.slot q4),.faddr 0 (.t q0),none⟩,⟨0,0,3⟩),
  (⟨(.slot q5),.load false 1 (.t q4),none⟩,⟨1,0,3⟩),
  (⟨(.slot q6),.cmp 0 .neq (.t q3) (.t q5),none⟩,⟨0,0,3⟩),
  (⟨(.slot q7),.faddr 1 (.t q),none⟩,⟨0,0,0⟩),
  (⟨(.slot q00),.load false 1 (.t q7),none⟩,⟨1,0,0⟩),
  (⟨(.slot q10),.call q231 [(.t q00)],none⟩,⟨3,0,1⟩),
  (⟨(.slot q20),.faddr 1 (.t q0),none⟩,⟨0,0,1⟩),
  (⟨(.slot q30),.load false 1 (.t q20),none⟩,⟨1,0,1⟩),
  (⟨(.slot q40),.call q231 [(.t q30)],none⟩,⟨3,1,2⟩),
  (⟨(.slot q50),.call q442 [(.t q10),(.t q40)],none⟩,⟨3,2,3⟩),
  (⟨(.slot q60),.call q031 [(.t q6),(.t q50)],none⟩,⟨3,3,4⟩),
  (⟨.drop,.store 2 (.t q1) (.t q60),none⟩,⟨3,4,5⟩)])
 .ret)),[(q1,some (true,2))],[]⟩
def c93 : CFn := ⟨[some q1],(.seq (.reg (.gen ⟨(.slot q),.box (.t q1),none⟩
  (.sm q0 (.k (.int .i64 0))
  .fin)))
 (.seq (.regc (.pfa 0 (.t q)
  (.pld false 1 (.l x0)
  (.pca q051 [(.l x0)]
  (.gen ⟨.push,.un .not (.l x0),none⟩
  (.gen ⟨.push,.faddr 1 (.t q),some ((.l x0),false)⟩
  (.gen ⟨.push,.load false 1 (.l x0),some ((.l x1),false)⟩
  (.gen ⟨.push,.bin .lss (.l x0) (.k (.int .i64 0)),some ((.l x2),false)⟩
  (.gen ⟨.push,.pick (.l x3) (.k (.bool true)) (.l x0),none⟩
  (.gen ⟨.push,.faddr 1 (.t q),some ((.l x0),false)⟩
  (.gen ⟨.push,.load false 1 (.l x0),some ((.l x1),false)⟩
  (.gen ⟨.push,.call q051 [(.l x0)],some ((.l x2),false)⟩
  (.gen ⟨.push,.un .not (.l x0),some ((.l x3),false)⟩
  (.gen ⟨.push,.pick (.l x4) (.k (.bool true)) (.l x0),none⟩
  .fin))))))))))))) (.l x0) (.seq (.reg (.sm q0 (.k (.int .i64 2))
  .fin))
 .ret) .skip)
 (.seq (.regc (.pfa 0 (.t q)
  (.pld false 1 (.l x0)
  (.pfa 1 (.t q)
  (.pld false 1 (.l x0)
  (.pca q56 [(.l x2),(.l x0)]
  (.pb .neq (.l x0) (.k (.int .i64 1))
  (.gen ⟨.push,.faddr 1 (.t q),some ((.l x0),false)⟩
  (.gen ⟨.push,.load false 1 (.l x0),some ((.l x1),false)⟩
  (.gen ⟨.push,.bin .eql (.l x0) (.k (.int .i64 0)),some ((.l x2),false)⟩
  (.gen ⟨.push,.move (.l x0),some ((.l x3),false)⟩
  (.gen ⟨.push,.faddr 0 (.t q),some ((.l x0),true)⟩
  (.gen ⟨.push,.load false 1 (.l x0),some ((.l x1),true)⟩
  (.gen ⟨.push,.bin .neq (.l x0) (.k (.int .i64 1)),some ((.l x2),true)⟩
  (.gen ⟨.push,.pick (.l x3) (.l x0) (.k (.bool false)),some ((.l x7),false)⟩
  (.gen ⟨.push,.pick (.l x8) (.k (.bool true)) (.l x0),none⟩
  .fin))))))))))))))) (.l x0) (.seq (.reg (.sm q0 (.k (.int .i64 3))
  .fin))
 .ret) .skip)
 (.seq (.reg (.sm q0 (.k (.int .i64 0))
  .fin))
 .ret)))),[(q0,none)],[]⟩
def c94 : CFn := ⟨[some q12,some q22],(.seq (.reg (.gen ⟨(.slot q71),.box (.t q12),none⟩
  (.gen ⟨(.slot q02),.box (.t q22),none⟩
  (.sm q51 (.k .snil)
  (.sm q61 (.k (.int .i64 0))
  .fin)))))
 (.seq (.reg (.pld true 2 (.t q71)
  (.pca q542 [(.l x0)]
  (.pex (.l x0) 0
  (.pex (.l x1) 1
  (.sm q1 (.l x1)
  (.sm q41 (.l x0)
  .fin)))))))
 (.seq (.regc (.pb .neq (.t q41) (.k (.int .i64 0))
  .fin) (.l x0) (.seq (.reg (.gen ⟨.push,.move (.t q41),none⟩
  (.sm q51 (.k .snil)
  (.sm q61 (.l x0)
  .fin))))
 .ret) .skip)
 (.seq (.reg (.pld true 2 (.t q02)
  (.pca q542 [(.l x0)]
  (.pex (.l x0) 0
  (.pex (.l x1) 1
  (.sm q2 (.l x1)
  (.sm q41 (.l x0)
  .fin)))))))
 (.seq (.regc (.pb .neq (.t q41) (.k (.int .i64 0))
  .fin) (.l x0) (.seq (.reg (.gen ⟨.push,.move (.t q41),none⟩
  (.sm q51 (.k .snil)
  (.sm q61 (.l x0)
  .fin))))
 .ret) .skip)
 (.seq (.reg (.sm q0 (.k (.int .i64 0))
  .fin))
 (.seq (.block 0 (.loop (.seq (.seq (.regd [(⟨(.slot q3),.move (.t q0),none⟩,⟨0,0,0⟩),
  (⟨(.slot q4),.move (.t q1),none⟩,⟨0,0,0⟩),
  (⟨(.slot q5),.len (.t q4),none⟩,⟨0,0,0⟩),
  (⟨(.slot q6),.move (.t q2),none⟩,⟨0,0,0⟩),
  (⟨(.slot q7),.len (.t q6),none⟩,⟨0,0,0⟩),
  (⟨(.slot q00),.min [(.t q5),(.t q7)],none⟩,⟨0,0,0⟩),
  (⟨(.slot q10),.bin .lss (.t q3) (.t q00),none⟩,⟨0,0,0⟩),
  (⟨(.slot q),.move (.t q10),none⟩,⟨0,0,0⟩),
  (⟨(.slot q20),.move (.t q1),some ((.t q),true)⟩,⟨0,0,0⟩),
  (⟨(.slot q30),.move (.t q0),some ((.t q),true)⟩,⟨0,0,0⟩),
  (⟨(.slot q40),.iaddr 2 (.t q20) (.t q30),some ((.t q),true)⟩,⟨0,0,0⟩),
  (⟨(.slot q50),.load true 2 (.t q40),some ((.t q),true)⟩,⟨1,0,0⟩),
  (⟨(.slot q60),.move (.t q2),some ((.t q),true)⟩,⟨0,0,0⟩),
  (⟨(.slot q70),.move (.t q0),some ((.t q),true)⟩,⟨0,0,0⟩),
  (⟨(.slot q01),.iaddr 2 (.t q60) (.t q70),some ((.t q),true)⟩,⟨0,0,0⟩),
  (⟨(.slot q11),.load true 2 (.t q01),some ((.t q),true)⟩,⟨1,0,0⟩),
  (⟨(.slot q21),.eqs false [0, 1] (.t q50) (.t q11),some ((.t q),true)⟩,⟨0,0,0⟩),
  (⟨(.slot q31),.pick (.t q) (.t q21) (.k (.bool false)),none⟩,⟨0,0,0⟩)])
 (.cond (.t q31) .skip (.exit 0)))
 (.block 1 (.reg (.pb .add (.t q0) (.k (.int .i64 1))
  (.sm q0 (.l x0)
  .fin)))))))
 (.seq (.reg (.pb .sub (.t q0) (.k (.int .i64 1))
  (.gen ⟨.push,.slc 2 (.t q1) (some (.l x0)) none,none⟩
  (.sm q1 (.l x0)
  .fin))))
 (.seq (.reg (.pca q642 [(.t q1)]
  .fin))
 (.seq (.reg (.gen ⟨.push,.slc 2 (.t q2) (some (.t q0)) none,none⟩
  (.gen ⟨.push,.append 2 16 (.t q1) (.l x0),none⟩
  (.sm q51 (.l x0)
  (.sm q61 (.k (.int .i64 0))
  .fin)))))
 .ret)))))))))),[(q51,none),(q61,none)],[]⟩
def c95 : CFn := ⟨[some q13,some q65,some q53],(.seq (.reg (.sm q61 (.k .snil)
  (.sm q71 (.k (.int .i64 0))
  .fin)))
 (.seq (.reg (.pca q36 [(.t q13)]
  (.gen ⟨(.slot q23),.box (.k (.agg [(.int .i64 0),(.int .i64 0),(.int .i64 0)])),none⟩
  (.st 3 (.t q23) (.l x0)
  .fin))))
 (.seq (.reg (.pca q27 [(.t q13)]
  (.gen ⟨.push,.mksl 4 64 [(.bool false),.snil,(.bool false),.snil] (.l x0) (.l x0),none⟩
  (.sm q1 (.l x0)
  .fin))))
 (.seq (.seq (.reg (.gen ⟨(.slot q55),.len (.t q1),none⟩
  (.sm q43 (.k (.int .i64 0))
  .fin)))
 (.block 0 (.loop (.seq (.regc (.pb .lss (.t q43) (.t q55)
  .fin) (.l x0) .skip (.exit 0))
 (.seq (.block 1 (.seq (.reg (.sm q73 (.t q43)
  .fin))
 (.reg (.pca q24 [(.k (.int .i64 0))]
  (.pia 4 (.t q1) (.t q73)
  (.st 4 (.l x0) (.l x1)
  .fin))))))
 (.reg (.pb .add (.t q43) (.k (.int .i64 1))
  (.sm q43 (.l x0)
  .fin))))))))
 (.seq (.seq (.reg (.sm q33 (.k (.int .i64 0))
  .fin))
 (.block 2 (.loop (.seq (.regc (.pb .add (.t q33) (.k (.int .i64 1))
  (.pln (.t q53)
  (.pb .lss (.l x1) (.l x0)
  .fin))) (.l x0) .skip (.exit 2))
 (.seq (.block 3 (.seq (.regd [(⟨(.slot q14),.move (.t q53),none⟩,⟨0,0,0⟩),
  (⟨(.slot q24),.move (.t q33),none⟩,⟨0,0,0⟩),
  (⟨(.slot q34),.iaddr 2 (.t q14) (.t q24),none⟩,⟨0,0,0⟩),
  (⟨(.slot q44),.load true 2 (.t q34),none⟩,⟨1,0,0⟩),
  (⟨(.slot q54),.move (.t q53),none⟩,⟨0,0,0⟩),
  (⟨(.slot q64),.move (.t q33),none⟩,⟨0,0,0⟩),
  (⟨(.slot q74),.bin .add (.t q64) (.k (.int .i64 1)),none⟩,⟨0,0,0⟩),
  (⟨(.slot q05),.iaddr 2 (.t q54) (.t q74),none⟩,⟨0,0,0⟩),
  (⟨(.slot q15),.load true 2 (.t q05),none⟩,⟨1,0,0⟩),
  (⟨(.slot q25),.call q742 [(.t q44),(.t q15)],none⟩,⟨3,0,1⟩),
  (⟨(.slot q63),.move (.t q25),none⟩,⟨0,1,1⟩),
  (⟨(.slot q35),.extract (.t q63) 0,none⟩,⟨0,1,1⟩),
  (⟨(.slot q45),.extract (.t q63) 1,none⟩,⟨0,1,2⟩),
  (⟨(.slot q51),.box (.k (.agg [(.int .i64 0),(.int .i64 0),(.int .i64 0),(.int .i64 0)])),none⟩,⟨2,0,1⟩),
  (⟨.drop,.store 4 (.t q51) (.t q35),none⟩,⟨3,1,2⟩),
  (⟨(.slot q04),.move (.t q45),none⟩,⟨0,2,2⟩)])
 (.seq (.regc (.gen ⟨.push,.un .not (.t q04),none⟩
  .fin) (.l x0) (.seq (.reg (.sm q61 (.k .snil)
  (.sm q71 (.k (.int .i64 12))
  .fin)))
 .ret) .skip)
 (.seq (.reg (.pld true 4 (.t q51)
  (.gen ⟨(.slot q72),.call q052 [(.t q65),(.l x0)],none⟩
  (.gen ⟨(.slot q03),.len (.t q72),none⟩
  (.sm q41 (.k (.int .i64 0))
  .fin)))))
 (.block 4 (.loop (.seq (.regc (.pb .lss (.t q41) (.t q03)
  .fin) (.l x0) .skip (.exit 4))
 (.seq (.block 5 (.seq (.reg (.gen ⟨.push,.move (.t q41),none⟩
  (.pia 4 (.t q72) (.t q41)
  (.pld true 4 (.l x0)
  (.gen ⟨(.slot q01),.box (.k (.agg [(.bool false),.snil,(.bool false),.snil])),none⟩
  (.sm q02 (.l x2)
  (.st 4 (.t q01) (.l x0)
  .fin)))))))
 (.seq (.regc (.pld true 4 (.t q01)
  (.pca q15 [(.l x0)]
  (.pb .eql (.l x0) (.k (.int .i64 0))
  .fin))) (.l x0) (.exit 5) .skip)
 (.seq (.reg (.pld true 3 (.t q23)
  (.pfa 2 (.t q51)
  (.pld false 1 (.l x0)
  (.pfa 3 (.t q51)
  (.pld false 1 (.l x0)
  (.gen ⟨.push,.build [(.int .i64 0),(.int .i64 0),(.int .i64 0)] [(0,1,(.t q02)),(1,1,(.l x2)),(2,1,(.l x0))],none⟩
  (.pca q152 [(.l x5),(.l x0)]
  (.pex (.l x0) 0
  (.pex (.l x1) 1
  (.pex (.l x2) 2
  (.sm q12 (.l x2)
  (.sm q22 (.l x1)
  (.sm q31 (.l x0)
  .fin))))))))))))))
 (.seq (.regc (.pb .neq (.t q31) (.k (.int .i64 0))
  .fin) (.l x0) (.seq (.reg (.gen ⟨.push,.move (.t q31),none⟩
  (.sm q61 (.k .snil)
  (.sm q71 (.l x0)
  .fin))))
 .ret) .skip)
 (.seq (.reg (.pca q061 [(.t q13),(.t q12)]
  (.pex (.l x0) 0
  (.pex (.l x1) 1
  (.sm q11 (.l x1)
  (.sm q31 (.l x0)
  .fin))))))
 (.seq (.regc (.pb .neq (.t q31) (.k (.int .i64 0))
  .fin) (.l x0) (.seq (.reg (.gen ⟨.push,.move (.t q31),none⟩
  (.sm q61 (.k .snil)
  (.sm q71 (.l x0)
  .fin))))
 .ret) .skip)
 (.seq (.regd [(⟨(.slot q32),.load true 4 (.t q01),none⟩,⟨1,0,1⟩),
  (⟨(.slot q42),.move (.t q22),none⟩,⟨0,0,0⟩),
  (⟨(.slot q52),.call q24 [(.t q42)],none⟩,⟨3,0,1⟩),
  (⟨(.slot q62),.call q75 [(.t q32),(.t q52)],none⟩,⟨3,1,2⟩),
  (⟨.drop,.store 4 (.t q01) (.t q62),none⟩,⟨3,2,3⟩)])
 (.seq (.reg (.gen ⟨(.slot q21),.len (.t q1),none⟩
  (.sm q (.k (.int .i64 0))
  .fin)))
 (.block 6 (.loop (.seq (.regc (.pb .lss (.t q) (.t q21)
  .fin) (.l x0) .skip (.exit 6))
 (.seq (.block 7 (.seq (.reg (.sm q0 (.t q)
  .fin))
 (.regd [(⟨(.slot q2),.move (.t q1),none⟩,⟨0,0,2⟩),
  (⟨(.slot q3),.move (.t q0),none⟩,⟨0,0,2⟩),
  (⟨(.slot q4),.move (.t q1),none⟩,⟨0,0,1⟩),
  (⟨(.slot q5),.move (.t q0),none⟩,⟨0,0,1⟩),
  (⟨(.slot q6),.iaddr 4 (.t q4) (.t q5),none⟩,⟨0,0,1⟩),
  (⟨(.slot q7),.load true 4 (.t q6),none⟩,⟨1,0,1⟩),
  (⟨(.slot q00),.load true 4 (.t q01),none⟩,⟨1,0,0⟩),
  (⟨(.slot q10),.move (.t q11),none⟩,⟨0,0,0⟩),
  (⟨(.slot q20),.move (.t q0),none⟩,⟨0,0,0⟩),
  (⟨(.slot q30),.iaddr 4 (.t q10) (.t q20),none⟩,⟨0,0,0⟩),
  (⟨(.slot q40),.load true 4 (.t q30),none⟩,⟨1,0,0⟩),
  (⟨(.slot q50),.call q75 [(.t q00),(.t q40)],none⟩,⟨3,0,1⟩),
  (⟨(.slot q60),.call q26 [(.t q7),(.t q50)],none⟩,⟨3,1,2⟩),
  (⟨(.slot q70),.iaddr 4 (.t q2) (.t q3),none⟩,⟨0,2,2⟩),
  (⟨.drop,.store 4 (.t q70) (.t q60),none⟩,⟨3,2,3⟩)])))
 (.reg (.pb .add (.t q) (.k (.int .i64 1))
  (.sm q (.l x0)
  .fin))))))))))))))))
 (.reg (.pb .add (.t q41) (.k (.int .i64 1))
  (.sm q41 (.l x0)
  .fin)))))))))))
 (.reg (.pb .add (.t q33) (.k (.int .i64 1))
  (.sm q33 (.l x0)
  .fin))))))))
 (.seq (.reg (.sm q61 (.t q1)
  (.sm q71 (.k (.int .i64 0))
  .fin)))
 .ret)))))),[(q61,none),(q71,none)],[]⟩
def c96 : CFn := ⟨[some q1],(.seq (.reg (.gen ⟨(.slot q),.box (.t q1),none⟩
  (.sm q0 (.k (.bool false))
  .fin)))
 (.seq (.reg (.pfa 1 (.t q)
  (.pld false 1 (.l x0)
  (.pln (.l x0)
  (.pb .eql (.l x0) (.k (.int .i64 1))
  (.gen ⟨.push,.faddr 1 (.t q),some ((.l x0),true)⟩
  (.gen ⟨.push,.load false 1 (.l x0),some ((.l x1),true)⟩
  (.gen ⟨.push,.iaddr 1 (.l x0) (.k (.int .i64 0)),some ((.l x2),true)⟩
  (.gen ⟨.push,.load false 1 (.l x0),some ((.l x3),true)⟩
  (.gen ⟨.push,.bin .eql (.l x0) (.k (.int .u32 1)),some ((.l x4),true)⟩
  (.gen ⟨.push,.pick (.l x5) (.l x0) (.k (.bool false)),none⟩
  (.gen ⟨.push,.faddr 0 (.t q),some ((.l x0),true)⟩
  (.gen ⟨.push,.load false 1 (.l x0),some ((.l x1),true)⟩
  (.gen ⟨.push,.un .not (.l x0),some ((.l x2),true)⟩
  (.gen ⟨.push,.pick (.l x3) (.l x0) (.k (.bool false)),none⟩
  (.sm q0 (.l x0)
  .fin))))))))))))))))
 .ret)),[(q0,none)],[]⟩
def c97 : CFn := ⟨[some q10,some q20],(.seq (.reg (.gen ⟨(.slot q1),.box (.t q10),none⟩
  (.gen ⟨(.slot q),.box (.t q20),none⟩
  (.gen ⟨(.slot q0),.box (.k (.agg [(.bool false),.snil])),none⟩
  .fin))))
 (.seq (.regd [(⟨(.slot q2),.load true 2 (.t q1),none⟩,⟨1,0,1⟩),
  (⟨(.slot q3),.faddr 0 (.t q),none⟩,⟨0,0,1⟩),
  (⟨(.slot q4),.load false 1 (.t q3),none⟩,⟨1,0,1⟩),
  (⟨(.slot q5),.faddr 1 (.t q),none⟩,⟨0,0,0⟩),
  (⟨(.slot q6),.load false 1 (.t q5),none⟩,⟨1,0,0⟩),
  (⟨(.slot q7),.call q231 [(.t q6)],none⟩,⟨3,0,1⟩),
  (⟨(.slot q00),.call q252 [(.t q2),(.t q4),(.t q7)],none⟩,⟨3,1,2⟩),
  (⟨.drop,.store 2 (.t q0) (.t q00),none⟩,⟨3,2,3⟩)])
 .ret)),[(q0,some (true,2))],[]⟩
def c98 : CFn := ⟨[some q,some q1],(.seq (.reg (.sm q0 (.k (.int .i64 0))
  .fin))
 (.seq (.seq (.reg (.pb .rem (.t q) (.t q1)
  (.sm q (.l x0)
  .fin)))
 (.regc (.pb .lss (.t q) (.k (.int .i64 0))
  .fin) (.l x0) (.reg (.pb .add (.t q) (.t q1)
  (.sm q (.l x0)
  .fin))) .skip))
 (.seq (.reg (.sm q0 (.t q)
  .fin))
 .ret))),[(q0,none)],[]⟩
def c100 : CFn := ⟨[some q2,some q4],(.seq (.reg (.sm q3 (.k (.int .i64 0))
  .fin))
 (.seq (.reg (.sm q0 (.k (.int .i64 1))
  .fin))
 (.seq (.seq (.reg (.sm q1 (.t q4)
  (.sm q (.k (.int .i64 0))
  .fin)))
 (.block 0 (.loop (.seq (.regc (.pb .lss (.t q) (.t q1)
  .fin) (.l x0) .skip (.exit 0))
 (.seq (.block 1 (.reg (.pb .mul (.t q0) (.t q2)
  (.sm q0 (.l x0)
  .fin))))
 (.reg (.pb .add (.t q) (.k (.int .i64 1))
  (.sm q (.l x0)
  .fin))))))))
 (.seq (.reg (.sm q3 (.t q0)
  .fin))
 .ret)))),[(q3,none)],[]⟩
def c101 : CFn := ⟨[some q0],(.seq (.reg (.sm q (.k (.int .i64 0))
  .fin))
 (.seq (.regc (.pb .eql (.t q0) (.k (.int .u64 0))
  .fin) (.l x0) (.seq (.reg (.sm q (.k (.int .i64 64))
  .fin))
 .ret) .skip)
 (.seq (.reg (.gen ⟨.push,.un .neg (.t q0),none⟩
  (.pb .and (.t q0) (.l x0)
  (.pb .mul (.l x0) (.k (.int .u64 285870213051353865))
  (.pb .shr (.l x0) (.k (.int .u64 58))
  (.gen ⟨.push,.iaddrA 64 1 (.k (.ptr q 0)) (.l x0),none⟩
  (.pld false 1 (.l x0)
  (.pcv .i64 (.l x0)
  (.sm q (.l x0)
  .fin)))))))))
 .ret))),[(q,none)],[]⟩
def c102 : CFn := ⟨[some q,some q0],(.seq (.reg (.sm q3 (.k (.int .i64 0))
  .fin))
 (.seq (.reg (.sm q1 (.k (.int .i64 1))
  .fin))
 (.seq (.block 0 (.loop (.seq (.regc (.pb .neq (.t q) (.k (.int .u64 0))
  .fin) (.l x0) .skip (.exit 0))
 (.block 1 (.seq (.reg (.pca q541 [(.t q)]
  (.sm q2 (.l x0)
  .fin)))
 (.seq (.reg (.pb .shr (.t q) (.t q2)
  (.sm q (.l x0)
  .fin)))
 (.seq (.regc (.pb .rem (.t q2) (.k (.int .i64 2))
  (.pb .eql (.l x0) (.k (.int .i64 1))
  (.gen ⟨.push,.move (.t q0),some ((.l x0),true)⟩
  (.gen ⟨.push,.bin .rem (.l x0) (.k (.int .u64 8)),some ((.l x1),true)⟩
  (.gen ⟨.push,.bin .eql (.l x0) (.k (.int .u64 3)),some ((.l x2),true)⟩
  (.gen ⟨.push,.move (.l x0),some ((.l x3),true)⟩
  (.gen ⟨.push,.move (.t q0),some ((.l x0),false)⟩
  (.gen ⟨.push,.bin .rem (.l x0) (.k (.int .u64 8)),some ((.l x1),false)⟩
  (.gen ⟨.push,.bin .eql (.l x0) (.k (.int .u64 5)),some ((.l x2),false)⟩
  (.gen ⟨.push,.pick (.l x3) (.k (.bool true)) (.l x0),some ((.l x7),true)⟩
  (.gen ⟨.push,.pick (.l x8) (.l x0) (.k (.bool false)),none⟩
  .fin))))))))))) (.l x0) (.reg (.gen ⟨.push,.un .neg (.t q1),none⟩
  (.sm q1 (.l x0)
  .fin))) .skip)
 (.seq (.regc (.pb .rem (.t q) (.k (.int .u64 4))
  (.pb .eql (.l x0) (.k (.int .u64 3))
  (.gen ⟨.push,.move (.t q0),some ((.l x0),true)⟩
  (.gen ⟨.push,.bin .rem (.l x0) (.k (.int .u64 4)),some ((.l x1),true)⟩
  (.gen ⟨.push,.bin .eql (.l x0) (.k (.int .u64 3)),some ((.l x2),true)⟩
  (.gen ⟨.push,.pick (.l x3) (.l x0) (.k (.bool false)),none⟩
  .fin)))))) (.l x0) (.reg (.gen ⟨.push,.un .neg (.t q1),none⟩
  (.sm q1 (.l x0)
  .fin))) .skip)
 (.reg (.pb .rem (.t q0) (.t q)
  (.gen ⟨.push,.move (.t q),none⟩
  (.sm q (.l x1)
  (.sm q0 (.l x0)
  .fin)))))))))))))
 (.seq (.regc (.pb .neq (.t q0) (.k (.int .u64 1))
  .fin) (.l x0) (.seq (.reg (.sm q3 (.k (.int .i64 0))
  .fin))
 .ret) .skip)
 (.seq (.reg (.sm q3 (.t q1)
  .fin))
 .ret))))),[(q3,none)],[]⟩
def c103 : CFn := ⟨[some q1,some q2],(.seq (.reg (.sm q0 (.k (.int .u64 0))
  .fin))
 (.seq (.regc (.pb .geq (.t q1) (.k (.int .i64 0))
  .fin) (.l x0) (.seq (.reg (.pcv .u64 (.t q1)
  (.pb .rem (.l x0) (.t q2)
  (.sm q0 (.l x0)
  .fin))))
 .ret) .skip)
 (.seq (.reg (.pcv .u64 (.t q1)
  (.gen ⟨.push,.un .neg (.l x0),none⟩
  (.pb .rem (.l x0) (.t q2)
  (.sm q (.l x0)
  .fin)))))
 (.seq (.regc (.pb .gtr (.t q) (.k (.int .u64 0))
  .fin) (.l x0) (.reg (.pb .sub (.t q2) (.t q)
  (.sm q (.l x0)
  .fin))) .skip)
 (.seq (.reg (.sm q0 (.t q)
  .fin))
 .ret))))),[(q0,none)],[]⟩
def c104 : CFn := ⟨[some q0],(.seq (.reg (.sm q (.k (.bool false))
  .fin))
 (.seq (.reg (.pb .geq (.t q0) (.k (.int .i64 (-1073741824)))
  (.gen ⟨.push,.move (.t q0),some ((.l x0),true)⟩
  (.gen ⟨.push,.bin .leq (.l x0) (.k (.int .i64 1073741824)),some ((.l x1),true)⟩
  (.gen ⟨.push,.pick (.l x2) (.l x0) (.k (.bool false)),none⟩
  (.sm q (.l x0)
  .fin))))))
 .ret)),[(q,none)],[]⟩
def c105 : CFn := ⟨[some q1,some q0],(.seq (.reg (.gen ⟨(.slot q2),.box (.k (.agg [(.int .i64 0),(.int .i64 0)])),none⟩
  .fin))
 (.seq (.reg (.pca q56 [(.t q1),(.t q0)]
  (.sm q (.l x0)
  .fin)))
 (.seq (.regc (.pb .lss (.t q0) (.k (.int .i64 0))
  (.gen ⟨.push,.move (.t q0),some ((.l x0),false)⟩
  (.gen ⟨.push,.bin .eql (.l x0) (.k (.int .i64 0)),some ((.l x1),false)⟩
  (.gen ⟨.push,.move (.l x0),some ((.l x2),false)⟩
  (.gen ⟨.push,.move (.t q1),some ((.l x0),true)⟩
  (.gen ⟨.push,.bin .lss (.l x0) (.k (.int .i64 0)),some ((.l x1),true)⟩
  (.gen ⟨.push,.pick (.l x2) (.l x0) (.k (.bool false)),some ((.l x5),false)⟩
  (.gen ⟨.push,.pick (.l x6) (.k (.bool true)) (.l x0),none⟩
  .fin)))))))) (.l x0) (.reg (.gen ⟨.push,.un .neg (.t q),none⟩
  (.sm q (.l x0)
  .fin))) .skip)
 (.seq (.regd [(⟨(.slot q3),.move (.t q1),none⟩,⟨0,0,0⟩),
  (⟨(.slot q4),.move (.t q),none⟩,⟨0,0,0⟩),
  (⟨(.slot q5),.bin .quo (.t q3) (.t q4),none⟩,⟨0,0,0⟩),
  (⟨(.slot q6),.move (.t q0),none⟩,⟨0,0,0⟩),
  (⟨(.slot q7),.move (.t q),none⟩,⟨0,0,0⟩),
  (⟨(.slot q00),.bin .quo (.t q6) (.t q7),none⟩,⟨0,0,0⟩),
  (⟨(.slot q10),.build [(.int .i64 0),(.int .i64 0)] [(0,1,(.t q5)),(1,1,(.t q00))],none⟩,⟨0,0,0⟩),
  (⟨.drop,.store 2 (.t q2) (.t q10),none⟩,⟨3,0,1⟩)])
 .ret)))),[(q2,some (true,2))],[]⟩
def c106 : CFn := ⟨[some q45],(.seq (.reg (.gen ⟨(.slot q35),.box (.t q45),none⟩
  (.gen ⟨(.slot q54),.box (.k (.agg [(.int .i64 0),(.int .i64 0),.snil])),none⟩
  (.sm q64 (.k (.int .i64 0))
  .fin))))
 (.seq (.reg (.pld true 3 (.t q35)
  (.pca q352 [(.l x0)]
  (.pex (.l x0) 0
  (.pex (.l x1) 1
  (.sm q01 (.l x1)
  (.sm q74 (.l x0)
  .fin)))))))
 (.seq (.regc (.pb .neq (.t q74) (.k (.int .i64 0))
  .fin) (.l x0) (.seq (.reg (.gen ⟨.push,.build [(.int .i64 0),(.int .i64 0),.snil] [],none⟩
  (.st 3 (.t q54) (.l x0)
  (.sm q64 (.t q74)
  .fin))))
 .ret) .skip)
 (.seq (.reg (.gen ⟨.push,.build [(.int .i64 0),(.int .i64 0),(.int .i64 0),(.int .i64 0)] [(0,1,(.k (.int .i64 0))),(1,1,(.k (.int .i64 (-1)))),(2,1,(.k (.int .i64 1))),(3,1,(.k (.int .i64 0)))],none⟩
  (.gen ⟨(.slot q05),.box (.k (.agg [(.int .i64 0),(.int .i64 0),(.int .i64 0),(.int .i64 0)])),none⟩
  (.st 4 (.t q05) (.l x0)
  .fin))))
 (.seq (.reg (.gen ⟨.push,.build [(.int .i64 0),(.int .i64 0),(.int .i64 0),(.int .i64 0)] [(0,1,(.k (.int .i64 0))),(1,1,(.k (.int .i64 (-1)))),(2,1,(.k (.int .i64 1))),(3,1,(.k (.int .i64 (-1))))],none⟩
  (.gen ⟨(.slot q15),.box (.k (.agg [(.int .i64 0),(.int .i64 0),(.int .i64 0),(.int .i64 0)])),none⟩
  (.st 4 (.t q15) (.l x0)
  .fin))))
 (.seq (.reg (.gen ⟨.push,.build [(.int .i64 0),(.int .i64 0),(.int .i64 0),(.int .i64 0)] [(0,1,(.k (.int .i64 (-1)))),(1,1,(.k (.int .i64 1))),(2,1,(.k (.int .i64 (-1)))),(3,1,(.k (.int .i64 0)))],none⟩
  (.gen ⟨(.slot q25),.box (.k (.agg [(.int .i64 0),(.int .i64 0),(.int .i64 0),(.int .i64 0)])),none⟩
  (.st 4 (.t q25) (.l x0)
  .fin))))
 (.seq (.reg (.pca q452 [(.t q01)]
  (.sm q73 (.l x0)
  .fin)))
 (.seq (.reg (.pb .mul (.k (.int .i64 2)) (.t q73)
  (.gen ⟨.push,.build [(.int .i64 0),(.int .i64 0),.snil] [(0,1,(.l x0)),(1,1,(.t q73))],none⟩
  (.gen ⟨(.slot q04),.box (.k (.agg [(.int .i64 0),(.int .i64 0),.snil])),none⟩
  (.st 3 (.t q04) (.l x0)
  .fin)))))
 (.seq (.seq (.reg (.pld true 4 (.t q05)
  (.gen ⟨.push,.bsl 4 1 [(.int .i64 0),(.int .i64 0),(.int .i64 0),(.int .i64 0)] [(0,(.l x0))],none⟩
  (.pld true 4 (.t q15)
  (.pld true 4 (.t q25)
  (.gen ⟨.push,.bsl 4 2 [(.int .i64 0),(.int .i64 0),(.int .i64 0),(.int .i64 0)] [(0,(.l x1)),(1,(.l x0))],none⟩
  (.gen ⟨(.slot q34),.bsl 1 2 [.snil] [(0,(.l x3)),(1,(.l x0))],none⟩
  (.gen ⟨(.slot q44),.len (.t q34),none⟩
  (.sm q24 (.k (.int .i64 0))
  .fin)))))))))
 (.block 0 (.loop (.seq (.regc (.pb .lss (.t q24) (.t q44)
  .fin) (.l x0) .skip (.exit 0))
 (.seq (.block 1 (.seq (.reg (.pia 1 (.t q34) (.t q24)
  (.pld false 1 (.l x0)
  (.sm q14 (.l x0)
  .fin))))
 (.seq (.reg (.sm q21 (.k (.int .i64 0))
  .fin))
 (.block 2 (.loop (.seq (.regc (.pb .lss (.t q21) (.t q73)
  .fin) (.l x0) .skip (.exit 2))
 (.seq (.block 3 (.seq (.reg (.gen ⟨.push,.mksl 2 32 [(.bool false),.snil] (.t q73) (.t q73),none⟩
  (.sm q2 (.l x0)
  .fin)))
 (.seq (.seq (.reg (.gen ⟨(.slot q53),.len (.t q2),none⟩
  (.sm q60 (.k (.int .i64 0))
  .fin)))
 (.block 4 (.loop (.seq (.regc (.pb .lss (.t q60) (.t q53)
  .fin) (.l x0) .skip (.exit 4))
 (.seq (.block 5 (.seq (.reg (.sm q31 (.t q60)
  .fin))
 (.reg (.pca q211 [(.k (.int .i64 0))]
  (.pia 2 (.t q2) (.t q31)
  (.st 2 (.l x0) (.l x1)
  .fin))))))
 (.reg (.pb .add (.t q60) (.k (.int .i64 1))
  (.sm q60 (.l x0)
  .fin))))))))
 (.seq (.reg (.pca q211 [(.k (.int .i64 1))]
  (.pia 2 (.t q2) (.t q21)
  (.st 2 (.l x0) (.l x1)
  .fin))))
 (.seq (.seq (.reg (.sm q43 (.t q14)
  (.gen ⟨(.slot q63),.len (.t q43),none⟩
  (.sm q70 (.k (.int .i64 0))
  .fin))))
 (.block 6 (.loop (.seq (.regc (.pb .lss (.t q70) (.t q63)
  .fin) (.l x0) .skip (.exit 6))
 (.seq (.block 7 (.seq (.reg (.pia 4 (.t q43) (.t q70)
  (.pld true 4 (.l x0)
  (.gen ⟨(.slot q11),.box (.k (.agg [(.int .i64 0),(.int .i64 0),(.int .i64 0),(.int .i64 0)])),none⟩
  (.st 4 (.t q11) (.l x0)
  .fin)))))
 (.seq (.regd [(⟨(.slot q41),.move (.t q01),none⟩,⟨0,0,0⟩),
  (⟨(.slot q51),.move (.t q21),none⟩,⟨0,0,0⟩),
  (⟨(.slot q61),.move (.t q01),none⟩,⟨0,0,0⟩),
  (⟨(.slot q71),.nilc (.t q61),none⟩,⟨0,0,0⟩),
  (⟨(.slot q02),.faddr 2 (.t q71),none⟩,⟨0,0,0⟩),
  (⟨(.slot q12),.load false 1 (.t q02),none⟩,⟨1,0,0⟩),
  (⟨(.slot q22),.len (.t q12),none⟩,⟨0,0,0⟩),
  (⟨(.slot q32),.bin .quo (.t q51) (.t q22),none⟩,⟨0,0,0⟩),
  (⟨(.slot q42),.move (.t q21),none⟩,⟨0,0,0⟩),
  (⟨(.slot q52),.move (.t q01),none⟩,⟨0,0,0⟩),
  (⟨(.slot q62),.nilc (.t q52),none⟩,⟨0,0,0⟩),
  (⟨(.slot q72),.faddr 2 (.t q62),none⟩,⟨0,0,0⟩),
  (⟨(.slot q03),.load false 1 (.t q72),none⟩,⟨1,0,0⟩),
  (⟨(.slot q13),.len (.t q03),none⟩,⟨0,0,0⟩),
  (⟨(.slot q23),.bin .rem (.t q42) (.t q13),none⟩,⟨0,0,0⟩),
  (⟨(.slot q33),.load true 4 (.t q11),none⟩,⟨1,0,0⟩),
  (⟨(.slot q40),.call q552 [(.t q41),(.t q32),(.t q23),(.t q33)],none⟩,⟨3,0,1⟩),
  (⟨(.slot q50),.len (.t q40),none⟩,⟨0,1,1⟩),
  (⟨(.slot q),.move (.k (.int .i64 0)),none⟩,⟨0,0,1⟩)])
 (.block 8 (.loop (.seq (.regc (.pb .lss (.t q) (.t q50)
  .fin) (.l x0) .skip (.exit 8))
 (.seq (.block 9 (.seq (.reg (.gen ⟨.push,.move (.t q),none⟩
  (.pia 2 (.t q40) (.t q)
  (.pld true 2 (.l x0)
  (.gen ⟨(.slot q0),.box (.k (.agg [(.bool false),.snil])),none⟩
  (.sm q1 (.l x2)
  (.st 2 (.t q0) (.l x0)
  .fin)))))))
 (.regc (.pld true 2 (.t q0)
  (.pca q221 [(.l x0)]
  (.pb .neq (.l x0) (.k (.int .i64 0))
  .fin))) (.l x0) (.regd [(⟨(.slot q3),.move (.t q2),none⟩,⟨0,0,1⟩),
  (⟨(.slot q4),.move (.t q1),none⟩,⟨0,0,1⟩),
  (⟨(.slot q5),.move (.t q2),none⟩,⟨0,0,0⟩),
  (⟨(.slot q6),.move (.t q1),none⟩,⟨0,0,0⟩),
  (⟨(.slot q7),.iaddr 2 (.t q5) (.t q6),none⟩,⟨0,0,0⟩),
  (⟨(.slot q00),.load true 2 (.t q7),none⟩,⟨1,0,0⟩),
  (⟨(.slot q10),.load true 2 (.t q0),none⟩,⟨1,0,0⟩),
  (⟨(.slot q20),.call q141 [(.t q00),(.t q10)],none⟩,⟨3,0,1⟩),
  (⟨(.slot q30),.iaddr 2 (.t q3) (.t q4),none⟩,⟨0,1,1⟩),
  (⟨.drop,.store 2 (.t q30) (.t q20),none⟩,⟨3,1,2⟩)]) .skip)))
 (.reg (.pb .add (.t q) (.k (.int .i64 1))
  (.sm q (.l x0)
  .fin))))))))))
 (.reg (.pb .add (.t q70) (.k (.int .i64 1))
  (.sm q70 (.l x0)
  .fin))))))))
 (.reg (.pfa 2 (.t q04)
  (.pld false 1 (.l x0)
  (.gen ⟨.push,.append 2 32 (.l x0) (.t q2),none⟩
  (.pfa 2 (.t q04)
  (.st 1 (.l x0) (.l x1)
  .fin)))))))))))
 (.reg (.pb .add (.t q21) (.k (.int .i64 1))
  (.sm q21 (.l x0)
  .fin))))))))))
 (.reg (.pb .add (.t q24) (.k (.int .i64 1))
  (.sm q24 (.l x0)
  .fin))))))))
 (.seq (.reg (.pld true 3 (.t q04)
  (.st 3 (.t q54) (.l x0)
  (.sm q64 (.k (.int .i64 0))
  .fin))))
 .ret)))))))))),[(q54,some (true,3)),(q64,none)],[]⟩
def c107 : CFn := ⟨[some q64],(.seq (.reg (.gen ⟨(.slot q33),.box (.t q64),none⟩
  (.sm q54 (.k .snil)
  .fin)))
 (.seq (.reg (.pfa 1 (.t q33)
  (.pld false 1 (.l x0)
  (.gen ⟨.push,.mksl 1 24 [.snil] (.l x0) (.l x0),none⟩
  (.sm q4 (.l x0)
  .fin)))))
 (.seq (.seq (.reg (.sm q23 (.k (.int .i64 0))
  .fin))
 (.block 0 (.loop (.seq (.regc (.pfa 0 (.t q33)
  (.pld false 1 (.l x0)
  (.pb .lss (.t q23) (.l x0)
  .fin))) (.l x0) .skip (.exit 0))
 (.seq (.block 1 (.seq (.reg (.sm q (.k .snil)
  .fin))
 (.seq (.seq (.reg (.pfa 2 (.t q33)
  (.pld false 1 (.l x0)
  (.pfa 1 (.t q33)
  (.pld false 1 (.l x0)
  (.pb .mul (.t q23) (.l x0)
  (.pb .add (.t q23) (.k (.int .i64 1))
  (.pfa 1 (.t q33)
  (.pld false 1 (.l x0)
  (.pb .mul (.l x2) (.l x0)
  (.gen ⟨(.slot q72),.slc 2 (.l x7) (some (.l x4)) (some (.l x0)),none⟩
  (.gen ⟨(.slot q03),.len (.t q72),none⟩
  (.sm q0 (.k (.int .i64 0))
  .fin)))))))))))))
 (.block 2 (.loop (.seq (.regc (.pb .lss (.t q0) (.t q03)
  .fin) (.l x0) .skip (.exit 2))
 (.seq (.block 3 (.seq (.reg (.gen ⟨.push,.move (.t q0),none⟩
  (.pia 2 (.t q72) (.t q0)
  (.pld true 2 (.l x0)
  (.gen ⟨(.slot q2),.box (.k (.agg [(.bool false),.snil])),none⟩
  (.sm q5 (.l x2)
  (.st 2 (.t q2) (.l x0)
  .fin)))))))
 (.regc (.pld true 2 (.t q2)
  (.pca q221 [(.l x0)]
  (.pb .neq (.l x0) (.k (.int .i64 0))
  .fin))) (.l x0) (.reg (.pld true 2 (.t q2)
  (.pca q502 [(.l x0)]
  (.gen ⟨.push,.build [(.int .i64 0),(.bool false),.snil,(.bool false),.snil] [(0,1,(.t q5)),(1,4,(.l x0))],none⟩
  (.gen ⟨.push,.bsl 5 1 [(.int .i64 0),(.bool false),.snil,(.bool false),.snil] [(0,(.l x0))],none⟩
  (.gen ⟨.push,.append 5 72 (.t q) (.l x0),none⟩
  (.sm q (.l x0)
  .fin))))))) .skip)))
 (.reg (.pb .add (.t q0) (.k (.int .i64 1))
  (.sm q0 (.l x0)
  .fin))))))))
 (.seq (.block 4 (.loop (.seq (.regc (.pln (.t q)
  (.pb .gtr (.l x0) (.k (.int .i64 0))
  (.gen ⟨.push,.move (.t q4),some ((.l x0),true)⟩
  (.gen ⟨.push,.move (.t q),some ((.l x1),true)⟩
  (.gen ⟨.push,.iaddr 5 (.l x0) (.k (.int .i64 0)),some ((.l x2),true)⟩
  (.gen ⟨.push,.faddr 0 (.l x0),some ((.l x3),true)⟩
  (.gen ⟨.push,.load false 1 (.l x0),some ((.l x4),true)⟩
  (.gen ⟨.push,.iaddr 1 (.l x4) (.l x0),some ((.l x5),true)⟩
  (.gen ⟨.push,.load false 1 (.l x0),some ((.l x6),true)⟩
  (.gen ⟨.push,.cmp 2 .neq (.l x0) (.k .snil),some ((.l x7),true)⟩
  (.gen ⟨.push,.pick (.l x8) (.l x0) (.k (.bool false)),none⟩
  .fin))))))))))) (.l x0) .skip (.exit 4))
 (.block 5 (.regd [(⟨(.slot q6),.move (.t q),none⟩,⟨0,0,0⟩),
  (⟨(.slot q7),.move (.t q),none⟩,⟨0,0,0⟩),
  (⟨(.slot q00),.iaddr 5 (.t q7) (.k (.int .i64 0)),none⟩,⟨0,0,0⟩),
  (⟨(.slot q10),.faddr 1 (.t q00),none⟩,⟨0,0,0⟩),
  (⟨(.slot q20),.load true 4 (.t q10),none⟩,⟨1,0,0⟩),
  (⟨(.slot q30),.move (.t q4),none⟩,⟨0,0,0⟩),
  (⟨(.slot q40),.move (.t q),none⟩,⟨0,0,0⟩),
  (⟨(.slot q50),.iaddr 5 (.t q40) (.k (.int .i64 0)),none⟩,⟨0,0,0⟩),
  (⟨(.slot q60),.faddr 0 (.t q50),none⟩,⟨0,0,0⟩),
  (⟨(.slot q70),.load false 1 (.t q60),none⟩,⟨1,0,0⟩),
  (⟨(.slot q01),.iaddr 1 (.t q30) (.t q70),none⟩,⟨0,0,0⟩),
  (⟨(.slot q11),.load false 1 (.t q01),none⟩,⟨1,0,0⟩),
  (⟨(.slot q21),.call q652 [(.t q6),(.t q20),(.t q11)],none⟩,⟨3,0,1⟩),
  (⟨(.slot q),.move (.t q21),none⟩,⟨0,1,1⟩)])))))
 (.seq (.regc (.pln (.t q)
  (.pb .eql (.l x0) (.k (.int .i64 0))
  .fin)) (.l x0) (.exit 1) .skip)
 (.seq (.regd [(⟨(.slot q53),.call q24 [(.k (.int .i64 1))],none⟩,⟨3,0,1⟩),
  (⟨(.slot q63),.move (.t q),none⟩,⟨0,0,1⟩),
  (⟨(.slot q73),.iaddr 5 (.t q63) (.k (.int .i64 0)),none⟩,⟨0,0,1⟩),
  (⟨(.slot q04),.faddr 1 (.t q73),none⟩,⟨0,0,1⟩),
  (⟨(.slot q14),.load true 4 (.t q04),none⟩,⟨1,0,1⟩),
  (⟨(.slot q24),.call q671 [(.t q53),(.t q14)],none⟩,⟨3,1,2⟩),
  (⟨(.slot q43),.move (.t q24),none⟩,⟨0,2,2⟩),
  (⟨(.slot q34),.extract (.t q43) 0,none⟩,⟨0,2,2⟩),
  (⟨(.slot q44),.extract (.t q43) 1,none⟩,⟨0,2,3⟩),
  (⟨(.slot q62),.box (.k (.agg [(.bool false),.snil,(.bool false),.snil])),none⟩,⟨2,0,2⟩),
  (⟨.drop,.store 4 (.t q62) (.t q34),none⟩,⟨3,2,3⟩),
  (⟨.drop,.move (.t q44),none⟩,⟨0,3,3⟩)])
 (.seq (.seq (.reg (.gen ⟨(.slot q13),.len (.t q),none⟩
  (.sm q1 (.k (.int .i64 0))
  .fin)))
 (.block 6 (.loop (.seq (.regc (.pb .lss (.t q1) (.t q13)
  .fin) (.l x0) .skip (.exit 6))
 (.seq (.block 7 (.seq (.reg (.sm q3 (.t q1)
  .fin))
 (.regd [(⟨(.slot q31),.move (.t q),none⟩,⟨0,0,1⟩),
  (⟨(.slot q41),.move (.t q3),none⟩,⟨0,0,1⟩),
  (⟨(.slot q51),.load true 4 (.t q62),none⟩,⟨1,0,0⟩),
  (⟨(.slot q61),.move (.t q),none⟩,⟨0,0,0⟩),
  (⟨(.slot q71),.move (.t q3),none⟩,⟨0,0,0⟩),
  (⟨(.slot q02),.iaddr 5 (.t q61) (.t q71),none⟩,⟨0,0,0⟩),
  (⟨(.slot q12),.faddr 1 (.t q02),none⟩,⟨0,0,0⟩),
  (⟨(.slot q22),.load true 4 (.t q12),none⟩,⟨1,0,0⟩),
  (⟨(.slot q32),.call q75 [(.t q51),(.t q22)],none⟩,⟨3,0,1⟩),
  (⟨(.slot q42),.iaddr 5 (.t q31) (.t q41),none⟩,⟨0,1,1⟩),
  (⟨(.slot q52),.faddr 1 (.t q42),none⟩,⟨0,1,1⟩),
  (⟨.drop,.store 4 (.t q52) (.t q32),none⟩,⟨3,1,2⟩)])))
 (.reg (.pb .add (.t q1) (.k (.int .i64 1))
  (.sm q1 (.l x0)
  .fin))))))))
 (.reg (.pia 5 (.t q) (.k (.int .i64 0))
  (.pfa 0 (.l x0)
  (.pld false 1 (.l x0)
  (.pia 1 (.t q4) (.l x0)
  (.st 1 (.l x0) (.t q)
  .fin)))))))))))))
 (.reg (.pb .add (.t q23) (.k (.int .i64 1))
  (.sm q23 (.l x0)
  .fin))))))))
 (.seq (.reg (.sm q54 (.t q4)
  .fin))
 .ret)))),[(q54,none)],[]⟩
def c108 : CFn := ⟨[some q1,some q31,some q2],(.seq (.reg (.gen ⟨(.slot q11),.box (.t q31),none⟩
  .fin))
 (.seq (.reg (.gen ⟨(.slot q21),.len (.t q1),none⟩
  (.sm q0 (.k (.int .i64 0))
  .fin)))
 (.block 0 (.loop (.seq (.regc (.pb .lss (.t q0) (.t q21)
  .fin) (.l x0) .skip (.exit 0))
 (.seq (.block 1 (.seq (.reg (.sm q (.t q0)
  .fin))
 (.regc (.pia 4 (.t q2) (.t q)
  (.pld true 4 (.l x0)
  (.pca q15 [(.l x0)]
  (.pb .neq (.l x0) (.k (.int .i64 0))
  .fin)))) (.l x0) (.regd [(⟨(.slot q3),.move (.t q1),none⟩,⟨0,0,2⟩),
  (⟨(.slot q4),.move (.t q),none⟩,⟨0,0,2⟩),
  (⟨(.slot q5),.move (.t q1),none⟩,⟨0,0,1⟩),
  (⟨(.slot q6),.move (.t q),none⟩,⟨0,0,1⟩),
  (⟨(.slot q7),.iaddr 4 (.t q5) (.t q6),none⟩,⟨0,0,1⟩),
  (⟨(.slot q00),.load true 4 (.t q7),none⟩,⟨1,0,1⟩),
  (⟨(.slot q10),.load true 4 (.t q11),none⟩,⟨1,0,0⟩),
  (⟨(.slot q20),.move (.t q2),none⟩,⟨0,0,0⟩),
  (⟨(.slot q30),.move (.t q),none⟩,⟨0,0,0⟩),
  (⟨(.slot q40),.iaddr 4 (.t q20) (.t q30),none⟩,⟨0,0,0⟩),
  (⟨(.slot q50),.load true 4 (.t q40),none⟩,⟨1,0,0⟩),
  (⟨(.slot q60),.call q75 [(.t q10),(.t q50)],none⟩,⟨3,0,1⟩),
  (⟨(.slot q70),.call q26 [(.t q00),(.t q60)],none⟩,⟨3,1,2⟩),
  (⟨(.slot q01),.iaddr 4 (.t q3) (.t q4),none⟩,⟨0,2,2⟩),
  (⟨.drop,.store 4 (.t q01) (.t q70),none⟩,⟨3,2,3⟩)]) .skip)))
 (.reg (.pb .add (.t q0) (.k (.int .i64 1))
  (.sm q0 (.l x0)
  .fin))))))))),[],[]⟩
def c109 : CFn := ⟨[some q7],(.seq (.reg (.gen ⟨(.slot q),.box (.t q7),none⟩
  (.gen ⟨(.slot q0),.box (.k (.agg [(.bool false),.snil,(.bool false),.snil])),none⟩
  .fin)))
 (.seq (.regd [(⟨(.slot q1),.faddr 0 (.t q),none⟩,⟨0,0,0⟩),
  (⟨(.slot q2),.load true 2 (.t q1),none⟩,⟨1,0,0⟩),
  (⟨(.slot q3),.call q142 [(.t q2)],none⟩,⟨3,0,1⟩),
  (⟨(.slot q4),.faddr 2 (.t q),none⟩,⟨0,0,1⟩),
  (⟨(.slot q5),.load true 2 (.t q4),none⟩,⟨1,0,1⟩),
  (⟨(.slot q6),.call q331 [(.t q3),(.t q5)],none⟩,⟨3,1,2⟩),
  (⟨.drop,.store 4 (.t q0) (.t q6),none⟩,⟨3,2,3⟩)])
 .ret)),[(q0,some (true,4))],[]⟩
def c110 : CFn := ⟨[some q0],(.seq (.reg (.sm q (.k .snil)
  .fin))
 (.seq (.regc (.gen ⟨.push,.cmp 1 .eql (.t q0) (.k .pnil),none⟩
  .fin) (.l x0) (.seq (.reg (.sm q (.k .snil)
  .fin))
 .ret) .skip)
 (.seq (.reg (.gen ⟨.push,.nilc (.t q0),none⟩
  (.pfa 3 (.l x0)
  (.pld false 1 (.l x0)
  (.gen ⟨.push,.append 1 8 (.k .snil) (.l x0),none⟩
  (.sm q (.l x0)
  .fin))))))
 .ret))),[(q,none)],[]⟩
def c111 : CFn := ⟨[some q73,some q3],(.seq (.reg (.gen ⟨(.slot q7),.box (.t q73),none⟩
  (.sm q2 (.k (.int .i64 0))
  (.sm q (.k (.int .i64 0))
  (.sm q0 (.k (.int .i64 0))
  .fin)))))
 (.seq (.reg (.pld true 3 (.t q7)
  (.pca q352 [(.l x0)]
  (.pex (.l x0) 0
  (.pex (.l x1) 1
  (.sm q1 (.l x1)
  (.sm q0 (.l x0)
  .fin)))))))
 (.seq (.regc (.pb .neq (.t q0) (.k (.int .i64 0))
  .fin) (.l x0) (.seq (.reg (.gen ⟨.push,.move (.t q0),none⟩
  (.sm q2 (.k (.int .i64 0))
  (.sm q (.k (.int .i64 0))
  (.sm q0 (.l x0)
  .fin)))))
 .ret) .skip)
 (.seq (.regc (.pb .lss (.t q3) (.k (.int .i64 0))
  (.gen ⟨.push,.move (.t q3),some ((.l x0),false)⟩
  (.gen ⟨.push,.move (.t q1),some ((.l x1),false)⟩
  (.gen ⟨.push,.call q452 [(.l x0)],some ((.l x2),false)⟩
  (.gen ⟨.push,.bin .geq (.l x2) (.l x0),some ((.l x3),false)⟩
  (.gen ⟨.push,.pick (.l x4) (.k (.bool true)) (.l x0),none⟩
  .fin)))))) (.l x0) (.seq (.reg (.sm q2 (.k (.int .i64 0))
  (.sm q (.k (.int .i64 0))
  (.sm q0 (.k (.int .i64 2))
  .fin))))
 .ret) .skip)
 (.seq (.regd [(⟨(.slot q00),.move (.t q3),none⟩,⟨0,0,0⟩),
  (⟨(.slot q10),.move (.t q1),none⟩,⟨0,0,0⟩),
  (⟨(.slot q20),.nilc (.t q10),none⟩,⟨0,0,0⟩),
  (⟨(.slot q30),.faddr 2 (.t q20),none⟩,⟨0,0,0⟩),
  (⟨(.slot q40),.load false 1 (.t q30),none⟩,⟨1,0,0⟩),
  (⟨(.slot q50),.len (.t q40),none⟩,⟨0,0,0⟩),
  (⟨(.slot q60),.bin .quo (.t q00) (.t q50),none⟩,⟨0,0,0⟩),
  (⟨(.slot q70),.move (.t q1),none⟩,⟨0,0,0⟩),
  (⟨(.slot q01),.nilc (.t q70),none⟩,⟨0,0,0⟩),
  (⟨(.slot q11),.faddr 2 (.t q01),none⟩,⟨0,0,0⟩),
  (⟨(.slot q21),.load false 1 (.t q11),none⟩,⟨1,0,0⟩),
  (⟨(.slot q31),.move (.t q3),none⟩,⟨0,0,0⟩),
  (⟨(.slot q41),.move (.t q1),none⟩,⟨0,0,0⟩),
  (⟨(.slot q51),.nilc (.t q41),none⟩,⟨0,0,0⟩),
  (⟨(.slot q61),.faddr 2 (.t q51),none⟩,⟨0,0,0⟩),
  (⟨(.slot q71),.load false 1 (.t q61),none⟩,⟨1,0,0⟩),
  (⟨(.slot q02),.len (.t q71),none⟩,⟨0,0,0⟩),
  (⟨(.slot q12),.bin .rem (.t q31) (.t q02),none⟩,⟨0,0,0⟩),
  (⟨(.slot q22),.iaddr 3 (.t q21) (.t q12),none⟩,⟨0,0,0⟩),
  (⟨(.slot q32),.load true 3 (.t q22),none⟩,⟨1,0,0⟩),
  (⟨(.slot q4),.box (.k (.agg [(.int .i64 0),(.int .i64 0),(.int .i64 0)])),none⟩,⟨2,0,0⟩),
  (⟨(.slot q6),.move (.t q60),none⟩,⟨0,0,0⟩),
  (⟨.drop,.store 3 (.t q4) (.t q32),none⟩,⟨3,0,1⟩)])
 (.seq (.reg (.pfa 0 (.t q4)
  (.pld false 1 (.l x0)
  (.gen ⟨.push,.un .neg (.l x0),none⟩
  (.pfa 1 (.t q4)
  (.pld false 1 (.l x0)
  (.pca q752 [(.t q1),(.l x2),(.l x0)]
  (.gen ⟨(.slot q5),.box (.k (.agg [(.int .i64 0),(.int .i64 0)])),none⟩
  (.st 2 (.t q5) (.l x0)
  .fin)))))))))
 (.seq (.reg (.pfa 1 (.t q5)
  (.pld false 1 (.l x0)
  (.sm q (.l x0)
  .fin))))
 (.seq (.regc (.pb .rem (.t q6) (.k (.int .i64 2))
  (.pb .eql (.l x0) (.k (.int .i64 1))
  .fin)) (.l x0) (.reg (.gen ⟨.push,.un .neg (.t q),none⟩
  (.sm q (.l x0)
  .fin))) .skip)
 (.seq (.regd [(⟨(.slot q42),.move (.t q6),none⟩,⟨0,0,0⟩),
  (⟨(.slot q52),.move (.t q1),none⟩,⟨0,0,0⟩),
  (⟨(.slot q62),.nilc (.t q52),none⟩,⟨0,0,0⟩),
  (⟨(.slot q72),.faddr 2 (.t q62),none⟩,⟨0,0,0⟩),
  (⟨(.slot q03),.load false 1 (.t q72),none⟩,⟨1,0,0⟩),
  (⟨(.slot q13),.len (.t q03),none⟩,⟨0,0,0⟩),
  (⟨(.slot q23),.bin .mul (.t q42) (.t q13),none⟩,⟨0,0,0⟩),
  (⟨(.slot q33),.faddr 0 (.t q5),none⟩,⟨0,0,0⟩),
  (⟨(.slot q43),.load false 1 (.t q33),none⟩,⟨1,0,0⟩),
  (⟨(.slot q53),.bin .add (.t q23) (.t q43),none⟩,⟨0,0,0⟩),
  (⟨(.slot q63),.move (.t q),none⟩,⟨0,0,0⟩),
  (⟨(.slot q2),.move (.t q53),none⟩,⟨0,0,0⟩),
  (⟨(.slot q),.move (.t q63),none⟩,⟨0,0,0⟩),
  (⟨(.slot q0),.move (.k (.int .i64 0)),none⟩,⟨0,0,0⟩)])
 .ret))))))))),[(q2,none),(q,none),(q0,none)],[]⟩
def c112 : CFn := ⟨[some q1,some q2],(.seq (.reg (.sm q (.k .snil)
  (.sm q0 (.k (.int .i64 0))
  .fin)))
 (.seq (.regc (.gen ⟨.push,.cmp 1 .eql (.t q1) (.k .pnil),none⟩
  .fin) (.l x0) (.seq (.reg (.sm q (.k .snil)
  (.sm q0 (.k (.int .i64 1))
  .fin)))
 .ret) .skip)
 (.seq (.regc (.pb .lss (.t q2) (.k (.int .i64 0))
  (.gen ⟨.push,.move (.t q2),some ((.l x0),false)⟩
  (.gen ⟨.push,.move (.t q1),some ((.l x1),false)⟩
  (.gen ⟨.push,.nilc (.l x0),some ((.l x2),false)⟩
  (.gen ⟨.push,.faddr 4 (.l x0),some ((.l x3),false)⟩
  (.gen ⟨.push,.load false 1 (.l x0),some ((.l x4),false)⟩
  (.gen ⟨.push,.len (.l x0),some ((.l x5),false)⟩
  (.gen ⟨.push,.bin .geq (.l x5) (.l x0),some ((.l x6),false)⟩
  (.gen ⟨.push,.pick (.l x7) (.k (.bool true)) (.l x0),none⟩
  .fin))))))))) (.l x0) (.seq (.reg (.sm q (.k .snil)
  (.sm q0 (.k (.int .i64 2))
  .fin)))
 .ret) .skip)
 (.seq (.reg (.gen ⟨.push,.nilc (.t q1),none⟩
  (.pfa 4 (.l x0)
  (.pld false 1 (.l x0)
  (.pia 1 (.l x0) (.t q2)
  (.pld false 1 (.l x0)
  (.pca q062 [(.l x0)]
  (.sm q (.l x0)
  (.sm q0 (.k (.int .i64 0))
  .fin)))))))))
 .ret)))),[(q,none),(q0,none)],[]⟩
def c113 : CFn := ⟨[some q4,some q7],(.seq (.reg (.gen ⟨(.slot q2),.box (.k (.agg [(.int .i64 0),(.int .i64 0),.snil])),none⟩
  (.sm q3 (.k (.int .i64 0))
  .fin)))
 (.seq (.regc (.pca q162 [(.t q4)]
  (.gen ⟨.push,.un .not (.l x0),none⟩
  (.gen ⟨.push,.move (.t q7),some ((.l x0),false)⟩
  (.gen ⟨.push,.len (.l x0),some ((.l x1),false)⟩
  (.gen ⟨.push,.call q162 [(.l x0)],some ((.l x2),false)⟩
  (.gen ⟨.push,.un .not (.l x0),some ((.l x3),false)⟩
  (.gen ⟨.push,.pick (.l x4) (.k (.bool true)) (.l x0),none⟩
  .fin))))))) (.l x0) (.seq (.reg (.gen ⟨.push,.build [(.int .i64 0),(.int .i64 0),.snil] [],none⟩
  (.st 3 (.t q2) (.l x0)
  (.sm q3 (.k (.int .i64 4))
  .fin))))
 .ret) .skip)
 (.seq (.reg (.pln (.t q7)
  (.gen ⟨.push,.build [(.int .i64 0),(.int .i64 0),.snil] [(0,1,(.l x0)),(1,1,(.t q4))],none⟩
  (.gen ⟨(.slot q1),.box (.k (.agg [(.int .i64 0),(.int .i64 0),.snil])),none⟩
  (.st 3 (.t q1) (.l x0)
  .fin)))))
 (.seq (.seq (.reg (.sm q5 (.t q7)
  (.gen ⟨(.slot q6),.len (.t q5),none⟩
  (.sm q (.k (.int .i64 0))
  .fin))))
 (.block 0 (.loop (.seq (.regc (.pb .lss (.t q) (.t q6)
  .fin) (.l x0) .skip (.exit 0))
 (.seq (.block 1 (.seq (.reg (.pia 1 (.t q5) (.t q)
  (.pld false 1 (.l x0)
  (.sm q0 (.l x0)
  .fin))))
 (.seq (.regc (.pln (.t q0)
  (.pb .neq (.l x0) (.t q4)
  .fin)) (.l x0) (.seq (.reg (.gen ⟨.push,.build [(.int .i64 0),(.int .i64 0),.snil] [],none⟩
  (.st 3 (.t q2) (.l x0)
  (.sm q3 (.k (.int .i64 4))
  .fin))))
 .ret) .skip)
 (.reg (.pfa 2 (.t q1)
  (.pld false 1 (.l x0)
  (.gen ⟨.push,.append 4 64 (.l x0) (.t q0),none⟩
  (.pfa 2 (.t q1)
  (.st 1 (.l x0) (.l x1)
  .fin)))))))))
 (.reg (.pb .add (.t q) (.k (.int .i64 1))
  (.sm q (.l x0)
  .fin))))))))
 (.seq (.reg (.pld true 3 (.t q1)
  (.pca q362 [(.l x0)]
  (.pca q262 [(.t q4),(.l x0)]
  (.st 3 (.t q2) (.l x0)
  (.sm q3 (.k (.int .i64 0))
  .fin))))))
 .ret))))),[(q2,some (true,3)),(q3,none)],[]⟩
def c114 : CFn := ⟨[some q6,some q7],(.seq (.reg (.gen ⟨(.slot q0),.box (.t q6),none⟩
  (.gen ⟨(.slot q1),.box (.t q7),none⟩
  (.gen ⟨(.slot q),.box (.k (.agg [(.bool false),.snil,(.bool false),.snil])),none⟩
  .fin))))
 (.seq (.regd [(⟨(.slot q2),.load true 4 (.t q0),none⟩,⟨1,0,1⟩),
  (⟨(.slot q3),.load true 4 (.t q1),none⟩,⟨1,0,0⟩),
  (⟨(.slot q4),.call q551 [(.t q3)],none⟩,⟨3,0,1⟩),
  (⟨(.slot q5),.call q26 [(.t q2),(.t q4)],none⟩,⟨3,1,2⟩),
  (⟨.drop,.store 4 (.t q) (.t q5),none⟩,⟨3,2,3⟩)])
 .ret)),[(q,some (true,4))],[]⟩
def c115 : CFn := ⟨[some q4],(.seq (.reg (.gen ⟨(.slot q),.box (.t q4),none⟩
  (.sm q0 (.k (.int .i64 0))
  (.sm q1 (.k (.int .i64 0))
  .fin))))
 (.seq (.seq (.reg (.pld true 3 (.t q)
  (.pca q462 [(.l x0)]
  (.sm q2 (.l x0)
  .fin))))
 (.regc (.pb .neq (.t q2) (.k (.int .i64 0))
  .fin) (.l x0) (.seq (.reg (.gen ⟨.push,.move (.t q2),none⟩
  (.sm q0 (.k (.int .i64 0))
  (.sm q1 (.l x0)
  .fin))))
 .ret) .skip))
 (.seq (.reg (.pfa 0 (.t q)
  (.pld false 1 (.l x0)
  (.pca q562 [(.l x0)]
  (.pex (.l x0) 0
  (.pex (.l x1) 1
  (.sm q3 (.l x1)
  .fin)))))))
 (.seq (.reg (.pfa 1 (.t q)
  (.pld false 1 (.l x0)
  (.pb .mul (.l x0) (.t q3)
  (.pb .quo (.l x0) (.k (.int .i64 12))
  (.sm q0 (.l x0)
  (.sm q1 (.k (.int .i64 0))
  .fin)))))))
 .ret)))),[(q0,none),(q1,none)],[]⟩
def c116 : CFn := ⟨[some q1],(.seq (.reg (.sm q (.k (.bool false))
  (.sm q0 (.k (.int .i64 0))
  .fin)))
 (.seq (.regc (.pb .gtr (.t q1) (.k (.int .i64 2147483647))
  .fin) (.l x0) (.seq (.reg (.sm q (.k (.bool false))
  (.sm q0 (.k (.int .i64 2))
  .fin)))
 .ret) .skip)
 (.seq (.reg (.pca q662 [(.t q1)]
  (.sm q (.l x0)
  (.sm q0 (.k (.int .i64 0))
  .fin))))
 .ret))),[(q,none),(q0,none)],[]⟩
def c117 : CFn := ⟨[some q2],(.seq (.reg (.sm q5 (.k .snil)
  (.sm q6 (.k (.int .i64 0))
  .fin)))
 (.seq (.regc (.pb .lss (.t q2) (.k (.int .i64 1))
  (.gen ⟨.push,.move (.t q2),some ((.l x0),false)⟩
  (.gen ⟨.push,.bin .gtr (.l x0) (.k (.int .i64 128)),some ((.l x1),false)⟩
  (.gen ⟨.push,.pick (.l x2) (.k (.bool true)) (.l x0),none⟩
  .fin)))) (.l x0) (.seq (.reg (.sm q5 (.k .snil)
  (.sm q6 (.k (.int .i64 2))
  .fin)))
 .ret) .skip)
 (.seq (.reg (.sm q3 (.k .snil)
  .fin))
 (.seq (.seq (.reg (.sm q0 (.k (.int .i64 1))
  .fin))
 (.block 0 (.loop (.seq (.regc (.pb .leq (.t q0) (.t q2)
  .fin) (.l x0) .skip (.exit 0))
 (.seq (.block 1 (.seq (.regc (.pb .rem (.t q2) (.t q0)
  (.pb .eql (.l x0) (.k (.int .i64 0))
  .fin)) (.l x0) (.seq (.reg (.sm q4 (.k (.int .i64 0))
  .fin))
 (.block 2 (.loop (.seq (.regc (.pb .quo (.t q2) (.t q0)
  (.pb .lss (.t q4) (.l x0)
  .fin)) (.l x0) .skip (.exit 2))
 (.seq (.block 3 (.reg (.pb .quo (.t q2) (.t q0)
  (.gen ⟨.push,.build [(.int .i64 0),(.int .i64 0),(.int .i64 0),(.int .i64 0)] [(0,1,(.t q0)),(2,1,(.t q4)),(3,1,(.l x0))],none⟩
  (.gen ⟨.push,.bsl 4 1 [(.int .i64 0),(.int .i64 0),(.int .i64 0),(.int .i64 0)] [(0,(.l x0))],none⟩
  (.gen ⟨.push,.append 4 32 (.t q3) (.l x0),none⟩
  (.sm q3 (.l x0)
  .fin)))))))
 (.reg (.pb .add (.t q4) (.k (.int .i64 1))
  (.sm q4 (.l x0)
  .fin)))))))) .skip)
 (.seq (.reg (.sm q1 (.k (.int .i64 1))
  .fin))
 (.block 4 (.loop (.seq (.regc (.pb .lss (.t q1) (.t q0)
  .fin) (.l x0) .skip (.exit 4))
 (.seq (.block 5 (.seq (.reg (.pb .add (.t q2) (.t q0)
  (.pb .sub (.l x0) (.k (.int .i64 1))
  (.pb .quo (.l x0) (.t q0)
  (.sm q (.l x0)
  .fin)))))
 (.block 6 (.loop (.seq (.regc (.pb .sub (.t q0) (.t q1)
  (.pb .mul (.t q) (.l x0)
  (.pb .lss (.l x0) (.t q2)
  .fin))) (.l x0) .skip (.exit 6))
 (.seq (.block 7 (.regc (.pb .mul (.t q0) (.t q)
  (.pb .sub (.l x0) (.t q2)
  (.pb .rem (.l x0) (.t q1)
  (.pb .eql (.l x0) (.k (.int .i64 0))
  .fin)))) (.l x0) (.reg (.pb .mul (.t q0) (.t q)
  (.pb .sub (.l x0) (.t q2)
  (.pb .quo (.l x0) (.t q1)
  (.gen ⟨.push,.build [(.int .i64 0),(.int .i64 0),(.int .i64 0),(.int .i64 0)] [(0,1,(.t q0)),(1,1,(.t q1)),(2,1,(.l x0)),(3,1,(.t q))],none⟩
  (.gen ⟨.push,.bsl 4 1 [(.int .i64 0),(.int .i64 0),(.int .i64 0),(.int .i64 0)] [(0,(.l x0))],none⟩
  (.gen ⟨.push,.append 4 32 (.t q3) (.l x0),none⟩
  (.sm q3 (.l x0)
  .fin)))))))) .skip))
 (.reg (.pb .add (.t q) (.k (.int .i64 1))
  (.sm q (.l x0)
  .fin)))))))))
 (.reg (.pb .add (.t q1) (.k (.int .i64 1))
  (.sm q1 (.l x0)
  .fin))))))))))
 (.reg (.pb .add (.t q0) (.k (.int .i64 1))
  (.sm q0 (.l x0)
  .fin))))))))
 (.seq (.reg (.sm q5 (.t q3)
  (.sm q6 (.k (.int .i64 0))
  .fin)))
 .ret))))),[(q5,none),(q6,none)],[]⟩
def c118 : CFn := ⟨[some q23,some q05],(.seq (.reg (.gen ⟨(.slot q33),.box (.k (.agg [(.int .i64 0),(.int .i64 0),.snil])),none⟩
  (.sm q43 (.k (.int .i64 0))
  .fin)))
 (.seq (.reg (.pca q36 [(.t q23)]
  (.pca q762 [(.l x0)]
  (.pex (.l x0) 0
  (.pex (.l x1) 1
  (.sm q44 (.l x1)
  (.sm q15 (.l x0)
  .fin)))))))
 (.seq (.regc (.pb .neq (.t q15) (.k (.int .i64 0))
  .fin) (.l x0) (.seq (.reg (.gen ⟨.push,.build [(.int .i64 0),(.int .i64 0),.snil] [],none⟩
  (.st 3 (.t q33) (.l x0)
  (.sm q43 (.t q15)
  .fin))))
 .ret) .skip)
 (.seq (.reg (.pca q27 [(.t q23)]
  (.gen ⟨.push,.mksl 1 24 [.snil] (.k (.int .i64 0)) (.l x0),none⟩
  (.sm q34 (.l x0)
  .fin))))
 (.seq (.seq (.reg (.gen ⟨(.slot q64),.call q651 [(.t q23)],none⟩
  (.gen ⟨(.slot q74),.len (.t q64),none⟩
  (.sm q14 (.k (.int .i64 0))
  .fin))))
 (.block 0 (.loop (.seq (.regc (.pb .lss (.t q14) (.t q74)
  .fin) (.l x0) .skip (.exit 0))
 (.seq (.block 1 (.seq (.reg (.pia 1 (.t q64) (.t q14)
  (.pld false 1 (.l x0)
  (.sm q53 (.l x0)
  .fin))))
 (.seq (.reg (.gen ⟨.push,.mksl 2 32 [(.bool false),.snil] (.t q44) (.t q44),none⟩
  (.sm q2 (.l x0)
  .fin)))
 (.seq (.seq (.reg (.gen ⟨(.slot q63),.len (.t q2),none⟩
  (.sm q70 (.k (.int .i64 0))
  .fin)))
 (.block 2 (.loop (.seq (.regc (.pb .lss (.t q70) (.t q63)
  .fin) (.l x0) .skip (.exit 2))
 (.seq (.block 3 (.seq (.reg (.sm q51 (.t q70)
  .fin))
 (.reg (.pca q211 [(.k (.int .i64 0))]
  (.pia 2 (.t q2) (.t q51)
  (.st 2 (.l x0) (.l x1)
  .fin))))))
 (.reg (.pb .add (.t q70) (.k (.int .i64 1))
  (.sm q70 (.l x0)
  .fin))))))))
 (.seq (.seq (.reg (.sm q03 (.t q05)
  (.gen ⟨(.slot q73),.len (.t q03),none⟩
  (.sm q01 (.k (.int .i64 0))
  .fin))))
 (.block 4 (.loop (.seq (.regc (.pb .lss (.t q01) (.t q73)
  .fin) (.l x0) .skip (.exit 4))
 (.seq (.block 5 (.seq (.reg (.pia 4 (.t q03) (.t q01)
  (.pld true 4 (.l x0)
  (.gen ⟨(.slot q11),.box (.k (.agg [(.int .i64 0),(.int .i64 0),(.int .i64 0),(.int .i64 0)])),none⟩
  (.st 4 (.t q11) (.l x0)
  .fin)))))
 (.seq (.regd [(⟨(.slot q02),.move (.t q23),none⟩,⟨0,0,0⟩),
  (⟨(.slot q12),.call q36 [(.t q02)],none⟩,⟨3,0,1⟩),
  (⟨(.slot q22),.move (.t q53),none⟩,⟨0,0,1⟩),
  (⟨(.slot q32),.load true 4 (.t q11),none⟩,⟨1,0,1⟩),
  (⟨(.slot q42),.call q072 [(.t q12),(.t q22),(.t q32)],none⟩,⟨3,1,2⟩),
  (⟨(.slot q41),.move (.t q42),none⟩,⟨0,2,2⟩),
  (⟨(.slot q52),.extract (.t q41) 0,none⟩,⟨0,2,2⟩),
  (⟨(.slot q62),.extract (.t q41) 1,none⟩,⟨0,2,2⟩),
  (⟨(.slot q61),.move (.t q52),none⟩,⟨0,2,2⟩),
  (⟨(.slot q21),.move (.t q62),none⟩,⟨0,2,2⟩)])
 (.seq (.regc (.pb .neq (.t q21) (.k (.int .i64 0))
  .fin) (.l x0) (.seq (.reg (.gen ⟨.push,.build [(.int .i64 0),(.int .i64 0),.snil] [],none⟩
  (.st 3 (.t q33) (.l x0)
  (.sm q43 (.t q21)
  .fin))))
 .ret) .skip)
 (.seq (.reg (.sm q40 (.t q61)
  (.gen ⟨(.slot q50),.len (.t q40),none⟩
  (.sm q (.k (.int .i64 0))
  .fin))))
 (.block 6 (.loop (.seq (.regc (.pb .lss (.t q) (.t q50)
  .fin) (.l x0) .skip (.exit 6))
 (.seq (.block 7 (.seq (.reg (.gen ⟨.push,.move (.t q),none⟩
  (.pia 2 (.t q40) (.t q)
  (.pld true 2 (.l x0)
  (.gen ⟨(.slot q0),.box (.k (.agg [(.bool false),.snil])),none⟩
  (.sm q1 (.l x2)
  (.st 2 (.t q0) (.l x0)
  .fin)))))))
 (.regc (.pld true 2 (.t q0)
  (.pca q221 [(.l x0)]
  (.pb .neq (.l x0) (.k (.int .i64 0))
  .fin))) (.l x0) (.regd [(⟨(.slot q3),.move (.t q2),none⟩,⟨0,0,1⟩),
  (⟨(.slot q4),.move (.t q1),none⟩,⟨0,0,1⟩),
  (⟨(.slot q5),.move (.t q2),none⟩,⟨0,0,0⟩),
  (⟨(.slot q6),.move (.t q1),none⟩,⟨0,0,0⟩),
  (⟨(.slot q7),.iaddr 2 (.t q5) (.t q6),none⟩,⟨0,0,0⟩),
  (⟨(.slot q00),.load true 2 (.t q7),none⟩,⟨1,0,0⟩),
  (⟨(.slot q10),.load true 2 (.t q0),none⟩,⟨1,0,0⟩),
  (⟨(.slot q20),.call q141 [(.t q00),(.t q10)],none⟩,⟨3,0,1⟩),
  (⟨(.slot q30),.iaddr 2 (.t q3) (.t q4),none⟩,⟨0,1,1⟩),
  (⟨.drop,.store 2 (.t q30) (.t q20),none⟩,⟨3,1,2⟩)]) .skip)))
 (.reg (.pb .add (.t q) (.k (.int .i64 1))
  (.sm q (.l x0)
  .fin))))))))))))
 (.reg (.pb .add (.t q01) (.k (.int .i64 1))
  (.sm q01 (.l x0)
  .fin))))))))
 (.seq (.reg (.gen ⟨.push,.mksl 4 64 [(.bool false),.snil,(.bool false),.snil] (.t q44) (.t q44),none⟩
  (.sm q72 (.l x0)
  .fin)))
 (.seq (.seq (.reg (.sm q13 (.t q2)
  (.gen ⟨(.slot q04),.len (.t q13),none⟩
  (.sm q60 (.k (.int .i64 0))
  .fin))))
 (.block 8 (.loop (.seq (.regc (.pb .lss (.t q60) (.t q04)
  .fin) (.l x0) .skip (.exit 8))
 (.seq (.block 9 (.seq (.reg (.gen ⟨.push,.move (.t q60),none⟩
  (.pia 2 (.t q13) (.t q60)
  (.pld true 2 (.l x0)
  (.gen ⟨(.slot q31),.box (.k (.agg [(.bool false),.snil])),none⟩
  (.sm q71 (.l x2)
  (.st 2 (.t q31) (.l x0)
  .fin)))))))
 (.reg (.pld true 2 (.t q31)
  (.pca q502 [(.l x0)]
  (.pia 4 (.t q72) (.t q71)
  (.st 4 (.l x0) (.l x1)
  .fin)))))))
 (.reg (.pb .add (.t q60) (.k (.int .i64 1))
  (.sm q60 (.l x0)
  .fin))))))))
 (.seq (.reg (.pca q172 [(.t q23),(.t q72)]
  (.pex (.l x0) 0
  (.pex (.l x1) 1
  (.sm q54 (.l x1)
  (.sm q24 (.l x0)
  .fin))))))
 (.seq (.regc (.pb .neq (.t q24) (.k (.int .i64 0))
  .fin) (.l x0) (.seq (.reg (.gen ⟨.push,.build [(.int .i64 0),(.int .i64 0),.snil] [],none⟩
  (.st 3 (.t q33) (.l x0)
  (.sm q43 (.t q24)
  .fin))))
 .ret) .skip)
 (.reg (.gen ⟨.push,.bsl 1 1 [.snil] [(0,(.t q54))],none⟩
  (.gen ⟨.push,.append 1 24 (.t q34) (.l x0),none⟩
  (.sm q34 (.l x0)
  .fin)))))))))))))
 (.reg (.pb .add (.t q14) (.k (.int .i64 1))
  (.sm q14 (.l x0)
  .fin))))))))
 (.seq (.reg (.pca q27 [(.t q23)]
  (.pca q161 [(.l x0),(.t q34)]
  (.pex (.l x0) 0
  (.pex (.l x1) 1
  (.st 3 (.t q33) (.l x1)
  (.sm q43 (.l x0)
  .fin)))))))
 .ret)))))),[(q33,some (true,3)),(q43,none)],[]⟩
def c119 : CFn := ⟨[some q3],(.seq (.reg (.gen ⟨(.slot q),.box (.t q3),none⟩
  (.gen ⟨(.slot q0),.box (.k (.agg [(.int .i64 0),(.int .i64 0),.snil])),none⟩
  (.sm q1 (.k (.int .i64 0))
  .fin))))
 (.seq (.regc (.pld true 3 (.t q)
  (.pca q272 [(.l x0)]
  (.gen ⟨.push,.un .not (.l x0),none⟩
  .fin))) (.l x0) (.seq (.reg (.gen ⟨.push,.build [(.int .i64 0),(.int .i64 0),.snil] [],none⟩
  (.st 3 (.t q0) (.l x0)
  (.sm q1 (.k (.int .i64 4))
  .fin))))
 .ret) .skip)
 (.seq (.reg (.pld true 3 (.t q)
  (.pca q372 [(.l x0)]
  (.pex (.l x0) 0
  (.pex (.l x1) 1
  (.sm q2 (.l x1)
  .fin))))))
 (.seq (.reg (.pfa 0 (.t q)
  (.pld false 1 (.l x0)
  (.pca q262 [(.l x0),(.t q2)]
  (.st 3 (.t q0) (.l x0)
  (.sm q1 (.k (.int .i64 0))
  .fin))))))
 .ret)))),[(q0,some (true,3)),(q1,none)],[]⟩
def c122 : CFn := ⟨[some q41],(.seq (.reg (.gen ⟨(.slot q11),.box (.t q41),none⟩
  (.gen ⟨(.slot q21),.box (.k (.agg [(.int .i64 0),(.int .i64 0),.snil])),none⟩
  (.sm q31 (.k (.int .i64 0))
  .fin))))
 (.seq (.regc (.pld true 3 (.t q11)
  (.pca q272 [(.l x0)]
  (.gen ⟨.push,.un .not (.l x0),none⟩
  .fin))) (.l x0) (.seq (.reg (.gen ⟨.push,.build [(.int .i64 0),(.int .i64 0),.snil] [],none⟩
  (.st 3 (.t q21) (.l x0)
  (.sm q31 (.k (.int .i64 4))
  .fin))))
 .ret) .skip)
 (.seq (.reg (.pfa 1 (.t q11)
  (.pld false 1 (.l x0)
  (.pfa 0 (.t q11)
  (.pld false 1 (.l x0)
  (.pca q472 [(.l x2),(.l x0)]
  (.sm q40 (.l x0)
  .fin)))))))
 (.seq (.seq (.reg (.pld true 3 (.t q11)
  (.gen ⟨(.slot q70),.call q362 [(.l x0)],none⟩
  (.gen ⟨(.slot q01),.len (.t q70),none⟩
  (.sm q50 (.k (.int .i64 0))
  .fin)))))
 (.block 0 (.loop (.seq (.regc (.pb .lss (.t q50) (.t q01)
  .fin) (.l x0) .skip (.exit 0))
 (.seq (.block 1 (.seq (.reg (.pia 1 (.t q70) (.t q50)
  (.pld false 1 (.l x0)
  (.sm q20 (.t q50)
  (.sm q60 (.l x0)
  .fin)))))
 (.seq (.reg (.sm q10 (.t q60)
  (.gen ⟨(.slot q30),.len (.t q10),none⟩
  (.sm q (.k (.int .i64 0))
  .fin))))
 (.block 2 (.loop (.seq (.regc (.pb .lss (.t q) (.t q30)
  .fin) (.l x0) .skip (.exit 2))
 (.seq (.block 3 (.seq (.reg (.gen ⟨.push,.move (.t q),none⟩
  (.pia 4 (.t q10) (.t q)
  (.pld true 4 (.l x0)
  (.gen ⟨(.slot q0),.box (.k (.agg [(.bool false),.snil,(.bool false),.snil])),none⟩
  (.sm q1 (.l x2)
  (.st 4 (.t q0) (.l x0)
  .fin)))))))
 (.regd [(⟨(.slot q2),.move (.t q40),none⟩,⟨0,0,0⟩),
  (⟨(.slot q3),.move (.t q1),none⟩,⟨0,0,0⟩),
  (⟨(.slot q4),.iaddr 1 (.t q2) (.t q3),none⟩,⟨0,0,0⟩),
  (⟨(.slot q5),.load false 1 (.t q4),none⟩,⟨1,0,0⟩),
  (⟨(.slot q6),.move (.t q20),none⟩,⟨0,0,0⟩),
  (⟨(.slot q7),.load true 4 (.t q0),none⟩,⟨1,0,0⟩),
  (⟨(.slot q00),.iaddr 4 (.t q5) (.t q6),none⟩,⟨0,0,0⟩),
  (⟨.drop,.store 4 (.t q00) (.t q7),none⟩,⟨3,0,1⟩)])))
 (.reg (.pb .add (.t q) (.k (.int .i64 1))
  (.sm q (.l x0)
  .fin))))))))))
 (.reg (.pb .add (.t q50) (.k (.int .i64 1))
  (.sm q50 (.l x0)
  .fin))))))))
 (.seq (.reg (.pfa 0 (.t q11)
  (.pld false 1 (.l x0)
  (.pca q262 [(.l x0),(.t q40)]
  (.st 3 (.t q21) (.l x0)
  (.sm q31 (.k (.int .i64 0))
  .fin))))))
 .ret))))),[(q21,some (true,3)),(q31,none)],[]⟩
def c123 : CFn := ⟨[some q71,some q02],(.seq (.reg (.gen ⟨(.slot q01),.box (.t q71),none⟩
  (.gen ⟨(.slot q50),.box (.t q02),none⟩
  (.gen ⟨(.slot q11),.box (.k (.agg [(.int .i64 0),(.int .i64 0),.snil])),none⟩
  (.sm q21 (.k (.int .i64 0))
  .fin)))))
 (.seq (.regc (.pld true 3 (.t q01)
  (.pca q272 [(.l x0)]
  (.gen ⟨.push,.un .not (.l x0),none⟩
  (.gen ⟨.push,.load true 3 (.t q50),some ((.l x0),false)⟩
  (.gen ⟨.push,.call q272 [(.l x0)],some ((.l x1),false)⟩
  (.gen ⟨.push,.un .not (.l x0),some ((.l x2),false)⟩
  (.gen ⟨.push,.pick (.l x3) (.k (.bool true)) (.l x0),none⟩
  (.gen ⟨.push,.faddr 1 (.t q01),some ((.l x0),false)⟩
  (.gen ⟨.push,.load false 1 (.l x0),some ((.l x1),false)⟩
  (.gen ⟨.push,.faddr 0 (.t q50),some ((.l x2),false)⟩
  (.gen ⟨.push,.load false 1 (.l x0),some ((.l x3),false)⟩
  (.gen ⟨.push,.bin .neq (.l x2) (.l x0),some ((.l x4),false)⟩
  (.gen ⟨.push,.pick (.l x5) (.k (.bool true)) (.l x0),none⟩
  .fin))))))))))))) (.l x0) (.seq (.reg (.gen ⟨.push,.build [(.int .i64 0),(.int .i64 0),.snil] [],none⟩
  (.st 3 (.t q11) (.l x0)
  (.sm q21 (.k (.int .i64 4))
  .fin))))
 .ret) .skip)
 (.seq (.regd [(⟨(.slot q31),.load true 3 (.t q01),none⟩,⟨1,0,0⟩),
  (⟨(.slot q41),.call q362 [(.t q31)],none⟩,⟨3,0,1⟩),
  (⟨(.slot q51),.load true 3 (.t q50),none⟩,⟨1,0,1⟩),
  (⟨(.slot q61),.call q362 [(.t q51)],none⟩,⟨3,1,2⟩),
  (⟨(.slot q1),.move (.t q41),none⟩,⟨0,2,2⟩),
  (⟨(.slot q60),.move (.t q61),none⟩,⟨0,2,2⟩)])
 (.seq (.seq (.reg (.gen ⟨(.slot q70),.len (.t q1),none⟩
  (.sm q (.k (.int .i64 0))
  .fin)))
 (.block 0 (.loop (.seq (.regc (.pb .lss (.t q) (.t q70)
  .fin) (.l x0) .skip (.exit 0))
 (.seq (.block 1 (.seq (.reg (.sm q0 (.t q)
  .fin))
 (.regd [(⟨(.slot q2),.move (.t q1),none⟩,⟨0,0,1⟩),
  (⟨(.slot q3),.move (.t q0),none⟩,⟨0,0,1⟩),
  (⟨(.slot q4),.move (.t q1),none⟩,⟨0,0,0⟩),
  (⟨(.slot q5),.move (.t q0),none⟩,⟨0,0,0⟩),
  (⟨(.slot q6),.iaddr 1 (.t q4) (.t q5),none⟩,⟨0,0,0⟩),
  (⟨(.slot q7),.load false 1 (.t q6),none⟩,⟨1,0,0⟩),
  (⟨(.slot q00),.move (.t q60),none⟩,⟨0,0,0⟩),
  (⟨(.slot q10),.faddr 1 (.t q50),none⟩,⟨0,0,0⟩),
  (⟨(.slot q20),.load false 1 (.t q10),none⟩,⟨1,0,0⟩),
  (⟨(.slot q30),.call q572 [(.t q7),(.t q00),(.t q20)],none⟩,⟨3,0,1⟩),
  (⟨(.slot q40),.iaddr 1 (.t q2) (.t q3),none⟩,⟨0,1,1⟩),
  (⟨.drop,.store 1 (.t q40) (.t q30),none⟩,⟨3,1,2⟩)])))
 (.reg (.pb .add (.t q) (.k (.int .i64 1))
  (.sm q (.l x0)
  .fin))))))))
 (.seq (.reg (.pfa 1 (.t q50)
  (.pld false 1 (.l x0)
  (.pca q262 [(.l x0),(.t q1)]
  (.st 3 (.t q11) (.l x0)
  (.sm q21 (.k (.int .i64 0))
  .fin))))))
 .ret))))),[(q11,some (true,3)),(q21,none)],[]⟩
def c126 : CFn := ⟨[some q60,some q70],(.seq (.reg (.gen ⟨(.slot q2),.box (.t q60),none⟩
  (.gen ⟨(.slot q),.box (.t q70),none⟩
  (.gen ⟨(.slot q0),.box (.k (.agg [(.bool false),.snil,(.bool false),.snil])),none⟩
  (.sm q1 (.k (.int .i64 0))
  .fin)))))
 (.seq (.regc (.pld true 4 (.t q)
  (.pca q15 [(.l x0)]
  (.pb .eql (.l x0) (.k (.int .i64 0))
  .fin))) (.l x0) (.seq (.reg (.gen ⟨.push,.build [(.bool false),.snil,(.bool false),.snil] [],none⟩
  (.st 4 (.t q0) (.l x0)
  (.sm q1 (.k (.int .i64 5))
  .fin))))
 .ret) .skip)
 (.seq (.regd [(⟨(.slot q3),.faddr 0 (.t q2),none⟩,⟨0,0,0⟩),
  (⟨(.slot q4),.load true 2 (.t q3),none⟩,⟨1,0,0⟩),
  (⟨(.slot q5),.faddr 2 (.t q),none⟩,⟨0,0,0⟩),
  (⟨(.slot q6),.load true 2 (.t q5),none⟩,⟨1,0,0⟩),
  (⟨(.slot q7),.call q431 [(.t q4),(.t q6)],none⟩,⟨3,0,1⟩),
  (⟨(.slot q00),.faddr 2 (.t q2),none⟩,⟨0,0,1⟩),
  (⟨(.slot q10),.load true 2 (.t q00),none⟩,⟨1,0,1⟩),
  (⟨(.slot q20),.faddr 0 (.t q),none⟩,⟨0,0,1⟩),
  (⟨(.slot q30),.load true 2 (.t q20),none⟩,⟨1,0,1⟩),
  (⟨(.slot q40),.call q431 [(.t q10),(.t q30)],none⟩,⟨3,1,2⟩),
  (⟨(.slot q50),.call q331 [(.t q7),(.t q40)],none⟩,⟨3,2,3⟩),
  (⟨.drop,.store 4 (.t q0) (.t q50),none⟩,⟨3,3,4⟩),
  (⟨(.slot q1),.move (.k (.int .i64 0)),none⟩,⟨0,4,4⟩)])
 .ret))),[(q0,some (true,4)),(q1,none)],[]⟩
def c127 : CFn := ⟨[some q00],(.seq (.reg (.gen ⟨(.slot q4),.box (.k (.agg [(.int .i64 0),(.int .i64 0),.snil])),none⟩
  (.sm q5 (.k (.int .i64 0))
  .fin)))
 (.seq (.regc (.gen ⟨.push,.cmp 1 .eql (.t q00) (.k .pnil),none⟩
  .fin) (.l x0) (.seq (.reg (.gen ⟨.push,.build [(.int .i64 0),(.int .i64 0),.snil] [],none⟩
  (.st 3 (.t q4) (.l x0)
  (.sm q5 (.k (.int .i64 1))
  .fin))))
 .ret) .skip)
 (.seq (.reg (.pca q772 [(.t q00)]
  (.pex (.l x0) 0
  (.pex (.l x1) 1
  (.gen ⟨(.slot q2),.box (.k (.agg [(.int .i64 0),(.int .i64 0),.snil])),none⟩
  (.st 3 (.t q2) (.l x1)
  (.sm q22 (.l x0)
  .fin)))))))
 (.seq (.regc (.pb .neq (.t q22) (.k (.int .i64 0))
  .fin) (.l x0) (.seq (.reg (.gen ⟨.push,.build [(.int .i64 0),(.int .i64 0),.snil] [],none⟩
  (.st 3 (.t q4) (.l x0)
  (.sm q5 (.t q22)
  .fin))))
 .ret) .skip)
 (.seq (.reg (.pca q36 [(.t q00)]
  (.gen ⟨(.slot q10),.box (.k (.agg [(.int .i64 0),(.int .i64 0),(.int .i64 0)])),none⟩
  (.st 3 (.t q10) (.l x0)
  .fin))))
 (.seq (.reg (.pfa 0 (.t q10)
  (.pld false 1 (.l x0)
  (.pca q04 [(.l x0)]
  (.pex (.l x0) 0
  (.pex (.l x1) 1
  (.sm q32 (.l x1)
  (.sm q22 (.l x0)
  .fin))))))))
 (.seq (.regc (.pb .neq (.t q22) (.k (.int .i64 0))
  .fin) (.l x0) (.seq (.reg (.gen ⟨.push,.build [(.int .i64 0),(.int .i64 0),.snil] [],none⟩
  (.st 3 (.t q4) (.l x0)
  (.sm q5 (.t q22)
  .fin))))
 .ret) .skip)
 (.seq (.seq (.reg (.sm q02 (.t q32)
  (.gen ⟨(.slot q12),.len (.t q02),none⟩
  (.sm q20 (.k (.int .i64 0))
  .fin))))
 (.block 0 (.loop (.seq (.regc (.pb .lss (.t q20) (.t q12)
  .fin) (.l x0) .skip (.exit 0))
 (.seq (.block 1 (.seq (.reg (.pia 2 (.t q02) (.t q20)
  (.pld true 2 (.l x0)
  (.gen ⟨(.slot q30),.box (.k (.agg [(.int .i64 0),(.int .i64 0)])),none⟩
  (.st 2 (.t q30) (.l x0)
  .fin)))))
 (.seq (.regd [(⟨(.slot q60),.faddr 0 (.t q10),none⟩,⟨0,0,0⟩),
  (⟨(.slot q70),.load false 1 (.t q60),none⟩,⟨1,0,0⟩),
  (⟨(.slot q01),.faddr 0 (.t q30),none⟩,⟨0,0,0⟩),
  (⟨(.slot q11),.load false 1 (.t q01),none⟩,⟨1,0,0⟩),
  (⟨(.slot q21),.bin .quo (.t q70) (.t q11),none⟩,⟨0,0,0⟩),
  (⟨(.slot q31),.faddr 1 (.t q10),none⟩,⟨0,0,0⟩),
  (⟨(.slot q41),.load false 1 (.t q31),none⟩,⟨1,0,0⟩),
  (⟨(.slot q51),.faddr 2 (.t q10),none⟩,⟨0,0,0⟩),
  (⟨(.slot q61),.load false 1 (.t q51),none⟩,⟨1,0,0⟩),
  (⟨(.slot q71),.build [(.int .i64 0),(.int .i64 0),(.int .i64 0)] [(0,1,(.t q21)),(1,1,(.t q41)),(2,1,(.t q61))],none⟩,⟨0,0,0⟩),
  (⟨(.slot q40),.box (.k (.agg [(.int .i64 0),(.int .i64 0),(.int .i64 0)])),none⟩,⟨2,0,0⟩),
  (⟨.drop,.store 3 (.t q40) (.t q71),none⟩,⟨3,0,1⟩)])
 (.seq (.regc (.pfa 0 (.t q40)
  (.pld false 1 (.l x0)
  (.pfa 2 (.t q10)
  (.pld false 1 (.l x0)
  (.pb .rem (.l x2) (.l x0)
  (.pb .neq (.l x0) (.k (.int .i64 0))
  .fin)))))) (.l x0) (.exit 1) .skip)
 (.seq (.reg (.pld true 3 (.t q40)
  (.pca q07 [(.l x0)]
  (.pex (.l x0) 0
  (.pex (.l x1) 1
  (.sm q6 (.l x1)
  (.sm q50 (.l x0)
  .fin)))))))
 (.seq (.regc (.pb .neq (.t q50) (.k (.int .i64 0))
  .fin) (.l x0) (.seq (.reg (.gen ⟨.push,.build [(.int .i64 0),(.int .i64 0),.snil] [],none⟩
  (.st 3 (.t q4) (.l x0)
  (.sm q5 (.t q50)
  .fin))))
 .ret) .skip)
 (.seq (.reg (.pfa 0 (.t q30)
  (.pld false 1 (.l x0)
  (.gen ⟨(.slot q7),.build [(.int .i64 0),(.int .i64 0)] [(0,1,(.k (.int .i64 1))),(1,1,(.l x0))],none⟩
  (.sm q (.k (.int .i64 0))
  .fin)))))
 (.block 2 (.loop (.seq (.regc (.pb .lss (.t q) (.k (.int .i64 2))
  .fin) (.l x0) .skip (.exit 2))
 (.seq (.block 3 (.seq (.reg (.gen ⟨.push,.idxA false 2 1 (.t q7) (.t q),none⟩
  (.sm q3 (.l x0)
  .fin)))
 (.seq (.reg (.pca q003 [(.t q00),(.t q6),(.t q3)]
  (.pex (.l x0) 0
  (.pex (.l x1) 1
  (.gen ⟨(.slot q0),.box (.k (.agg [(.int .i64 0),(.int .i64 0),.snil])),none⟩
  (.st 3 (.t q0) (.l x1)
  (.sm q1 (.l x0)
  .fin)))))))
 (.seq (.regc (.pb .neq (.t q1) (.k (.int .i64 0))
  .fin) (.l x0) (.seq (.reg (.gen ⟨.push,.build [(.int .i64 0),(.int .i64 0),.snil] [],none⟩
  (.st 3 (.t q4) (.l x0)
  (.sm q5 (.t q1)
  .fin))))
 .ret) .skip)
 (.reg (.pld true 3 (.t q2)
  (.pld true 3 (.t q0)
  (.pca q102 [(.l x1),(.l x0)]
  (.st 3 (.t q2) (.l x0)
  .fin)))))))))
 (.reg (.pb .add (.t q) (.k (.int .i64 1))
  (.sm q (.l x0)
  .fin))))))))))))))
 (.reg (.pb .add (.t q20) (.k (.int .i64 1))
  (.sm q20 (.l x0)
  .fin))))))))
 (.seq (.reg (.pld true 3 (.t q2)
  (.st 3 (.t q4) (.l x0)
  (.sm q5 (.k (.int .i64 0))
  .fin))))
 .ret))))))))),[(q4,some (true,3)),(q5,none)],[]⟩
def c128 : CFn := ⟨[some q06],(.seq (.reg (.gen ⟨(.slot q0),.box (.t q06),none⟩
  (.gen ⟨(.slot q24),.box (.k (.agg [(.int .i64 0),(.int .i64 0),(.int .i64 0),.snil])),none⟩
  (.sm q34 (.k (.int .i64 0))
  .fin))))
 (.seq (.regd [(⟨(.slot q05),.faddr 1 (.t q0),none⟩,⟨0,0,0⟩),
  (⟨(.slot q15),.load false 1 (.t q05),none⟩,⟨1,0,0⟩),
  (⟨(.slot q25),.faddr 0 (.t q0),none⟩,⟨0,0,0⟩),
  (⟨(.slot q35),.load false 1 (.t q25),none⟩,⟨1,0,0⟩),
  (⟨(.slot q45),.faddr 2 (.t q0),none⟩,⟨0,0,0⟩),
  (⟨(.slot q55),.load false 1 (.t q45),none⟩,⟨1,0,0⟩),
  (⟨(.slot q74),.len (.t q55),none⟩,⟨0,0,0⟩),
  (⟨(.slot q65),.mksl 4 64 [(.bool false),.snil,(.bool false),.snil] (.t q74) (.t q74),none⟩,⟨2,0,0⟩),
  (⟨(.slot q75),.build [(.int .i64 0),(.int .i64 0),.snil] [(0,1,(.t q15)),(1,1,(.t q35)),(2,1,(.t q65))],none⟩,⟨0,0,0⟩),
  (⟨(.slot q51),.box (.k (.agg [(.int .i64 0),(.int .i64 0),.snil])),none⟩,⟨2,0,0⟩),
  (⟨.drop,.store 3 (.t q51) (.t q75),none⟩,⟨3,0,1⟩)])
 (.seq (.seq (.reg (.sm q1 (.k (.int .i64 0))
  .fin))
 (.block 0 (.loop (.seq (.regc (.pfa 0 (.t q0)
  (.pld false 1 (.l x0)
  (.pb .lss (.t q1) (.l x0)
  .fin))) (.l x0) .skip (.exit 0))
 (.seq (.block 1 (.seq (.reg (.sm q (.k (.int .i64 0))
  .fin))
 (.block 2 (.loop (.seq (.regc (.pfa 1 (.t q0)
  (.pld false 1 (.l x0)
  (.pb .lss (.t q) (.l x0)
  .fin))) (.l x0) .skip (.exit 2))
 (.seq (.block 3 (.regd [(⟨(.slot q2),.faddr 2 (.t q51),none⟩,⟨0,0,0⟩),
  (⟨(.slot q3),.load false 1 (.t q2),none⟩,⟨1,0,0⟩),
  (⟨(.slot q4),.move (.t q),none⟩,⟨0,0,0⟩),
  (⟨(.slot q5),.faddr 0 (.t q0),none⟩,⟨0,0,0⟩),
  (⟨(.slot q6),.load false 1 (.t q5),none⟩,⟨1,0,0⟩),
  (⟨(.slot q7),.bin .mul (.t q4) (.t q6),none⟩,⟨0,0,0⟩),
  (⟨(.slot q00),.move (.t q1),none⟩,⟨0,0,0⟩),
  (⟨(.slot q10),.bin .add (.t q7) (.t q00),none⟩,⟨0,0,0⟩),
  (⟨(.slot q20),.faddr 2 (.t q0),none⟩,⟨0,0,0⟩),
  (⟨(.slot q30),.load false 1 (.t q20),none⟩,⟨1,0,0⟩),
  (⟨(.slot q40),.move (.t q1),none⟩,⟨0,0,0⟩),
  (⟨(.slot q50),.faddr 1 (.t q0),none⟩,⟨0,0,0⟩),
  (⟨(.slot q60),.load false 1 (.t q50),none⟩,⟨1,0,0⟩),
  (⟨(.slot q70),.bin .mul (.t q40) (.t q60),none⟩,⟨0,0,0⟩),
  (⟨(.slot q01),.move (.t q),none⟩,⟨0,0,0⟩),
  (⟨(.slot q11),.bin .add (.t q70) (.t q01),none⟩,⟨0,0,0⟩),
  (⟨(.slot q21),.iaddr 4 (.t q30) (.t q11),none⟩,⟨0,0,0⟩),
  (⟨(.slot q31),.load true 4 (.t q21),none⟩,⟨1,0,0⟩),
  (⟨(.slot q41),.iaddr 4 (.t q3) (.t q10),none⟩,⟨0,0,0⟩),
  (⟨.drop,.store 4 (.t q41) (.t q31),none⟩,⟨3,0,1⟩)]))
 (.reg (.pb .add (.t q) (.k (.int .i64 1))
  (.sm q (.l x0)
  .fin)))))))))
 (.reg (.pb .add (.t q1) (.k (.int .i64 1))
  (.sm q1 (.l x0)
  .fin))))))))
 (.seq (.reg (.pfa 0 (.t q0)
  (.pld false 1 (.l x0)
  (.gen ⟨.push,.build [(.int .i64 0),(.int .i64 0),.snil] [(1,1,(.l x0))],none⟩
  (.gen ⟨(.slot q61),.box (.k (.agg [(.int .i64 0),(.int .i64 0),.snil])),none⟩
  (.st 3 (.t q61) (.l x0)
  .fin))))))
 (.seq (.seq (.reg (.sm q71 (.k (.int .i64 0))
  .fin))
 (.block 4 (.loop (.seq (.regc (.pfa 0 (.t q51)
  (.pld false 1 (.l x0)
  (.pb .lss (.t q71) (.l x0)
  .fin))) (.l x0) .skip (.exit 4))
 (.seq (.block 5 (.seq (.reg (.pfa 0 (.t q51)
  (.pld false 1 (.l x0)
  (.pb .add (.t q71) (.k (.int .i64 256))
  (.gen ⟨.push,.min [(.l x1),(.l x0)],none⟩
  (.sm q02 (.l x0)
  .fin))))))
 (.seq (.regd [(⟨(.slot q32),.faddr 2 (.t q61),none⟩,⟨0,0,0⟩),
  (⟨(.slot q42),.load false 1 (.t q32),none⟩,⟨1,0,0⟩),
  (⟨(.slot q52),.faddr 2 (.t q51),none⟩,⟨0,0,0⟩),
  (⟨(.slot q62),.load false 1 (.t q52),none⟩,⟨1,0,0⟩),
  (⟨(.slot q72),.move (.t q71),none⟩,⟨0,0,0⟩),
  (⟨(.slot q03),.faddr 0 (.t q0),none⟩,⟨0,0,0⟩),
  (⟨(.slot q13),.load false 1 (.t q03),none⟩,⟨1,0,0⟩),
  (⟨(.slot q23),.bin .mul (.t q72) (.t q13),none⟩,⟨0,0,0⟩),
  (⟨(.slot q33),.move (.t q02),none⟩,⟨0,0,0⟩),
  (⟨(.slot q43),.faddr 0 (.t q0),none⟩,⟨0,0,0⟩),
  (⟨(.slot q53),.load false 1 (.t q43),none⟩,⟨1,0,0⟩),
  (⟨(.slot q63),.bin .mul (.t q33) (.t q53),none⟩,⟨0,0,0⟩),
  (⟨(.slot q73),.slc 4 (.t q62) (some (.t q23)) (some (.t q63)),none⟩,⟨0,0,0⟩),
  (⟨(.slot q04),.append 4 64 (.t q42) (.t q73),none⟩,⟨3,0,1⟩),
  (⟨(.slot q14),.faddr 2 (.t q61),none⟩,⟨0,1,1⟩),
  (⟨.drop,.store 1 (.t q14) (.t q04),none⟩,⟨3,1,2⟩)])
 (.seq (.reg (.pfa 0 (.t q61)
  (.pld false 1 (.l x0)
  (.pb .sub (.t q02) (.t q71)
  (.pb .add (.l x1) (.l x0)
  (.pfa 0 (.t q61)
  (.st 1 (.l x0) (.l x1)
  .fin)))))))
 (.seq (.reg (.pld true 3 (.t q61)
  (.pca q632 [(.l x0)]
  (.pex (.l x0) 0
  (.pex (.l x1) 1
  (.pex (.l x2) 2
  (.gen ⟨(.slot q12),.box (.k (.agg [(.int .i64 0),(.int .i64 0),.snil])),none⟩
  (.st 3 (.t q12) (.l x2)
  (.sm q22 (.l x0)
  .fin)))))))))
 (.seq (.regc (.pb .neq (.t q22) (.k (.int .i64 0))
  .fin) (.l x0) (.seq (.reg (.gen ⟨.push,.build [(.int .i64 0),(.int .i64 0),(.int .i64 0),.snil] [],none⟩
  (.st 4 (.t q24) (.l x0)
  (.sm q34 (.t q22)
  .fin))))
 .ret) .skip)
 (.reg (.pld true 3 (.t q12)
  (.st 3 (.t q61) (.l x0)
  .fin)))))))))
 (.reg (.pb .add (.t q71) (.k (.int .i64 256))
  (.sm q71 (.l x0)
  .fin))))))))
 (.seq (.reg (.pld true 3 (.t q61)
  (.pca q271 [(.l x0)]
  (.pex (.l x0) 0
  (.pex (.l x1) 1
  (.gen ⟨(.slot q54),.box (.k (.agg [(.int .i64 0),(.int .i64 0),.snil])),none⟩
  (.st 3 (.t q54) (.l x1)
  (.sm q44 (.l x0)
  .fin))))))))
 (.seq (.regc (.pb .neq (.t q44) (.k (.int .i64 0))
  .fin) (.l x0) (.seq (.reg (.gen ⟨.push,.build [(.int .i64 0),(.int .i64 0),(.int .i64 0),.snil] [],none⟩
  (.st 4 (.t q24) (.l x0)
  (.sm q34 (.t q44)
  .fin))))
 .ret) .skip)
 (.seq (.reg (.pld true 3 (.t q54)
  (.pca q761 [(.l x0)]
  (.pex (.l x0) 0
  (.pex (.l x1) 1
  (.gen ⟨(.slot q64),.box (.k (.agg [(.int .i64 0),(.int .i64 0),.snil])),none⟩
  (.st 3 (.t q64) (.l x1)
  (.sm q44 (.l x0)
  .fin))))))))
 (.seq (.regc (.pb .neq (.t q44) (.k (.int .i64 0))
  .fin) (.l x0) (.seq (.reg (.gen ⟨.push,.build [(.int .i64 0),(.int .i64 0),(.int .i64 0),.snil] [],none⟩
  (.st 4 (.t q24) (.l x0)
  (.sm q34 (.t q44)
  .fin))))
 .ret) .skip)
 (.seq (.reg (.pfa 0 (.t q0)
  (.pld false 1 (.l x0)
  (.pld true 3 (.t q64)
  (.gen ⟨.push,.build [(.int .i64 0),(.int .i64 0),(.int .i64 0),.snil] [(0,1,(.l x1)),(1,3,(.l x0))],none⟩
  (.st 4 (.t q24) (.l x0)
  (.sm q34 (.k (.int .i64 0))
  .fin)))))))
 .ret)))))))))),[(q24,some (true,4)),(q34,none)],[]⟩
def c129 : CFn := ⟨[some q43,some q53],(.seq (.reg (.gen ⟨(.slot q0),.box (.t q43),none⟩
  (.gen ⟨(.slot q2),.box (.t q53),none⟩
  (.gen ⟨(.slot q33),.box (.k (.agg [(.int .i64 0),(.int .i64 0),.snil])),none⟩
  .fin))))
 (.seq (.reg (.pfa 0 (.t q0)
  (.pld false 1 (.l x0)
  (.pfa 1 (.t q0)
  (.pld false 1 (.l x0)
  (.pfa 1 (.t q2)
  (.pld false 1 (.l x0)
  (.pb .add (.l x2) (.l x0)
  (.gen ⟨.push,.build [(.int .i64 0),(.int .i64 0),.snil] [(0,1,(.l x5)),(1,1,(.l x0))],none⟩
  (.gen ⟨(.slot q1),.box (.k (.agg [(.int .i64 0),(.int .i64 0),.snil])),none⟩
  (.st 3 (.t q1) (.l x0)
  .fin)))))))))))
 (.seq (.seq (.reg (.sm q (.k (.int .i64 0))
  .fin))
 (.block 0 (.loop (.seq (.regc (.pfa 0 (.t q0)
  (.pld false 1 (.l x0)
  (.pb .lss (.t q) (.l x0)
  .fin))) (.l x0) .skip (.exit 0))
 (.seq (.block 1 (.seq (.regd [(⟨(.slot q3),.faddr 2 (.t q1),none⟩,⟨0,0,0⟩),
  (⟨(.slot q4),.load false 1 (.t q3),none⟩,⟨1,0,0⟩),
  (⟨(.slot q5),.faddr 2 (.t q0),none⟩,⟨0,0,0⟩),
  (⟨(.slot q6),.load false 1 (.t q5),none⟩,⟨1,0,0⟩),
  (⟨(.slot q7),.move (.t q),none⟩,⟨0,0,0⟩),
  (⟨(.slot q00),.faddr 1 (.t q0),none⟩,⟨0,0,0⟩),
  (⟨(.slot q10),.load false 1 (.t q00),none⟩,⟨1,0,0⟩),
  (⟨(.slot q20),.bin .mul (.t q7) (.t q10),none⟩,⟨0,0,0⟩),
  (⟨(.slot q30),.move (.t q),none⟩,⟨0,0,0⟩),
  (⟨(.slot q40),.bin .add (.t q30) (.k (.int .i64 1)),none⟩,⟨0,0,0⟩),
  (⟨(.slot q50),.faddr 1 (.t q0),none⟩,⟨0,0,0⟩),
  (⟨(.slot q60),.load false 1 (.t q50),none⟩,⟨1,0,0⟩),
  (⟨(.slot q70),.bin .mul (.t q40) (.t q60),none⟩,⟨0,0,0⟩),
  (⟨(.slot q01),.slc 4 (.t q6) (some (.t q20)) (some (.t q70)),none⟩,⟨0,0,0⟩),
  (⟨(.slot q11),.append 4 64 (.t q4) (.t q01),none⟩,⟨3,0,1⟩),
  (⟨(.slot q21),.faddr 2 (.t q1),none⟩,⟨0,1,1⟩),
  (⟨.drop,.store 1 (.t q21) (.t q11),none⟩,⟨3,1,2⟩)])
 (.regd [(⟨(.slot q31),.faddr 2 (.t q1),none⟩,⟨0,0,0⟩),
  (⟨(.slot q41),.load false 1 (.t q31),none⟩,⟨1,0,0⟩),
  (⟨(.slot q51),.faddr 2 (.t q2),none⟩,⟨0,0,0⟩),
  (⟨(.slot q61),.load false 1 (.t q51),none⟩,⟨1,0,0⟩),
  (⟨(.slot q71),.move (.t q),none⟩,⟨0,0,0⟩),
  (⟨(.slot q02),.faddr 1 (.t q2),none⟩,⟨0,0,0⟩),
  (⟨(.slot q12),.load false 1 (.t q02),none⟩,⟨1,0,0⟩),
  (⟨(.slot q22),.bin .mul (.t q71) (.t q12),none⟩,⟨0,0,0⟩),
  (⟨(.slot q32),.move (.t q),none⟩,⟨0,0,0⟩),
  (⟨(.slot q42),.bin .add (.t q32) (.k (.int .i64 1)),none⟩,⟨0,0,0⟩),
  (⟨(.slot q52),.faddr 1 (.t q2),none⟩,⟨0,0,0⟩),
  (⟨(.slot q62),.load false 1 (.t q52),none⟩,⟨1,0,0⟩),
  (⟨(.slot q72),.bin .mul (.t q42) (.t q62),none⟩,⟨0,0,0⟩),
  (⟨(.slot q03),.slc 4 (.t q61) (some (.t q22)) (some (.t q72)),none⟩,⟨0,0,0⟩),
  (⟨(.slot q13),.append 4 64 (.t q41) (.t q03),none⟩,⟨3,0,1⟩),
  (⟨(.slot q23),.faddr 2 (.t q1),none⟩,⟨0,1,1⟩),
  (⟨.drop,.store 1 (.t q23) (.t q13),none⟩,⟨3,1,2⟩)])))
 (.reg (.pb .add (.t q) (.k (.int .i64 1))
  (.sm q (.l x0)
  .fin))))))))
 (.seq (.reg (.pld true 3 (.t q1)
  (.st 3 (.t q33) (.l x0)
  .fin)))
 .ret)))),[(q33,some (true,3))],[]⟩
def c130 : CFn := ⟨[some q2,some q60],(.seq (.reg (.gen ⟨(.slot q),.box (.k (.agg [(.int .i64 0),(.int .i64 0),.snil])),none⟩
  (.sm q0 (.k (.int .i64 0))
  .fin)))
 (.seq (.regd [(⟨(.slot q3),.move (.t q2),none⟩,⟨0,0,0⟩),
  (⟨(.slot q4),.nilc (.t q3),none⟩,⟨0,0,0⟩),
  (⟨(.slot q5),.faddr 3 (.t q4),none⟩,⟨0,0,0⟩),
  (⟨(.slot q6),.load false 1 (.t q5),none⟩,⟨1,0,0⟩),
  (⟨(.slot q7),.move (.t q60),none⟩,⟨0,0,0⟩),
  (⟨(.slot q00),.move (.t q2),none⟩,⟨0,0,0⟩),
  (⟨(.slot q10),.nilc (.t q00),none⟩,⟨0,0,0⟩),
  (⟨(.slot q20),.faddr 4 (.t q10),none⟩,⟨0,0,0⟩),
  (⟨(.slot q30),.load true 4 (.t q20),none⟩,⟨1,0,0⟩),
  (⟨(.slot q1),.call q103 [(.t q6),(.t q7),(.t q30)],none⟩,⟨3,0,1⟩),
  (⟨(.slot q40),.extract (.t q1) 0,none⟩,⟨0,1,1⟩),
  (⟨(.slot q50),.extract (.t q1) 1,none⟩,⟨0,1,1⟩),
  (⟨.drop,.store 3 (.t q) (.t q40),none⟩,⟨3,1,2⟩),
  (⟨(.slot q0),.move (.t q50),none⟩,⟨0,2,2⟩)])
 .ret)),[(q,some (true,3)),(q0,none)],[]⟩
def c131 : CFn := ⟨[some q2,some q1],(.seq (.reg (.gen ⟨(.slot q),.box (.k (.agg [(.int .i64 0),(.int .i64 0),.snil])),none⟩
  (.sm q0 (.k (.int .i64 0))
  .fin)))
 (.seq (.regc (.pca q162 [(.t q2)]
  (.gen ⟨.push,.un .not (.l x0),none⟩
  (.gen ⟨.push,.move (.t q1),some ((.l x0),false)⟩
  (.gen ⟨.push,.call q162 [(.l x0)],some ((.l x1),false)⟩
  (.gen ⟨.push,.un .not (.l x0),some ((.l x2),false)⟩
  (.gen ⟨.push,.pick (.l x3) (.k (.bool true)) (.l x0),none⟩
  .fin)))))) (.l x0) (.seq (.reg (.gen ⟨.push,.build [(.int .i64 0),(.int .i64 0),.snil] [],none⟩
  (.st 3 (.t q) (.l x0)
  (.sm q0 (.k (.int .i64 4))
  .fin))))
 .ret) .skip)
 (.seq (.reg (.pca q472 [(.t q2),(.t q1)]
  (.pca q262 [(.t q1),(.l x0)]
  (.st 3 (.t q) (.l x0)
  (.sm q0 (.k (.int .i64 0))
  .fin)))))
 .ret))),[(q,some (true,3)),(q0,none)],[]⟩
def c132 : CFn := ⟨[some q3,some q4],(.seq (.reg (.gen ⟨(.slot q),.box (.t q3),none⟩
  (.gen ⟨(.slot q2),.box (.t q4),none⟩
  (.gen ⟨(.slot q0),.box (.k (.agg [(.int .i64 0),(.int .i64 0),.snil])),none⟩
  (.sm q1 (.k (.int .i64 0))
  .fin)))))
 (.seq (.reg (.pld true 3 (.t q)
  (.pld true 3 (.t q)
  (.gen ⟨.push,.mkfn q303 [(.t q2)],none⟩
  (.pca q203 [(.l x2),(.l x1),(.l x0)]
  (.pex (.l x0) 0
  (.pex (.l x1) 1
  (.st 3 (.t q0) (.l x1)
  (.sm q1 (.l x0)
  .fin)))))))))
 .ret)),[(q0,some (true,3)),(q1,none)],[]⟩
def c133 : CFn := ⟨[some q1],(.seq (.reg (.gen ⟨(.slot q0),.box (.t q1),none⟩
  (.gen ⟨(.slot q),.box (.k (.agg [(.bool false),.snil,(.bool false),.snil])),none⟩
  .fin)))
 (.seq (.reg (.pld true 2 (.t q0)
  (.pca q45 [(.l x0)]
  (.pca q211 [(.k (.int .i64 1))]
  (.gen ⟨.push,.build [(.bool false),.snil,(.bool false),.snil] [(0,2,(.l x1)),(2,2,(.l x0))],none⟩
  (.st 4 (.t q) (.l x0)
  .fin))))))
 .ret)),[(q,some (true,4))],[]⟩
def c134 : CFn := ⟨[some q3,some q4],(.seq (.reg (.gen ⟨(.slot q1),.box (.t q3),none⟩
  (.gen ⟨(.slot q2),.box (.t q4),none⟩
  (.gen ⟨(.slot q),.box (.k (.agg [(.int .i64 0),(.int .i64 0),.snil])),none⟩
  (.sm q0 (.k (.int .i64 0))
  .fin)))))
 (.seq (.reg (.pld true 3 (.t q1)
  (.pld true 3 (.t q2)
  (.pca q203 [(.l x1),(.l x0),(.k (.fnv q26 []))]
  (.pex (.l x0) 0
  (.pex (.l x1) 1
  (.st 3 (.t q) (.l x1)
  (.sm q0 (.l x0)
  .fin))))))))
 .ret)),[(q,some (true,3)),(q0,none)],[]⟩
def c135 : CFn := ⟨[some q75],(.seq (.reg (.gen ⟨(.slot q55),.box (.t q75),none⟩
  (.sm q35 (.k .snil)
  (.sm q45 (.k (.int .i64 0))
  .fin))))
 (.seq (.seq (.reg (.pld true 3 (.t q55)
  (.pca q403 [(.l x0)]
  (.sm q65 (.l x0)
  .fin))))
 (.regc (.pb .neq (.t q65) (.k (.int .i64 0))
  .fin) (.l x0) (.seq (.reg (.gen ⟨.push,.move (.t q65),none⟩
  (.sm q35 (.k .snil)
  (.sm q45 (.l x0)
  .fin))))
 .ret) .skip))
 (.seq (.reg (.pld true 3 (.t q55)
  (.pca q503 [(.l x0)]
  (.sm q2 (.l x0)
  .fin))))
 (.seq (.reg (.pca q603 [(.t q2)]
  .fin))
 (.seq (.reg (.pca q703 []
  (.gen ⟨.push,.bsl 1 1 [.snil] [(0,(.l x0))],none⟩
  (.sm q62 (.l x0)
  .fin))))
 (.seq (.seq (.reg (.gen ⟨(.slot q25),.len (.t q2),none⟩
  (.sm q72 (.k (.int .i64 0))
  .fin)))
 (.block 0 (.loop (.seq (.regc (.pb .lss (.t q72) (.t q25)
  .fin) (.l x0) .skip (.exit 0))
 (.seq (.block 1 (.seq (.reg (.sm q52 (.t q72)
  .fin))
 (.seq (.regd [(⟨(.slot q03),.move (.t q62),none⟩,⟨0,0,0⟩),
  (⟨(.slot q13),.move (.t q52),none⟩,⟨0,0,0⟩),
  (⟨(.slot q23),.iaddr 1 (.t q03) (.t q13),none⟩,⟨0,0,0⟩),
  (⟨(.slot q33),.load false 1 (.t q23),none⟩,⟨1,0,0⟩),
  (⟨(.slot q43),.call q013 [(.t q33)],none⟩,⟨3,0,1⟩),
  (⟨(.slot q53),.move (.t q62),none⟩,⟨0,0,1⟩),
  (⟨(.slot q63),.move (.t q52),none⟩,⟨0,0,1⟩),
  (⟨(.slot q73),.iaddr 1 (.t q53) (.t q63),none⟩,⟨0,0,1⟩),
  (⟨(.slot q04),.load false 1 (.t q73),none⟩,⟨1,0,1⟩),
  (⟨(.slot q14),.move (.t q2),none⟩,⟨0,0,1⟩),
  (⟨(.slot q24),.move (.t q52),none⟩,⟨0,0,1⟩),
  (⟨(.slot q34),.iaddr 1 (.t q14) (.t q24),none⟩,⟨0,0,1⟩),
  (⟨(.slot q44),.load false 1 (.t q34),none⟩,⟨1,0,1⟩),
  (⟨(.slot q54),.move (.t q52),none⟩,⟨0,0,1⟩),
  (⟨(.slot q64),.iaddr 4 (.t q44) (.t q54),none⟩,⟨0,0,1⟩),
  (⟨(.slot q74),.load true 4 (.t q64),none⟩,⟨1,0,1⟩),
  (⟨(.slot q05),.call q113 [(.t q04),(.t q74)],none⟩,⟨3,1,2⟩),
  (⟨(.slot q15),.call q722 [(.t q43),(.t q05)],none⟩,⟨3,2,3⟩),
  (⟨(.slot q1),.move (.t q15),none⟩,⟨0,3,3⟩)])
 (.seq (.reg (.pca q24 [(.k (.int .i64 1))]
  (.gen ⟨(.slot q0),.box (.k (.agg [(.bool false),.snil,(.bool false),.snil])),none⟩
  (.st 4 (.t q0) (.l x0)
  .fin))))
 (.seq (.seq (.reg (.pb .sub (.t q52) (.k (.int .i64 1))
  (.sm q (.l x0)
  .fin)))
 (.block 2 (.loop (.seq (.regc (.pb .geq (.t q) (.k (.int .i64 0))
  .fin) (.l x0) .skip (.exit 2))
 (.seq (.block 3 (.seq (.regd [(⟨(.slot q3),.load true 4 (.t q0),none⟩,⟨1,0,0⟩),
  (⟨(.slot q4),.move (.t q2),none⟩,⟨0,0,0⟩),
  (⟨(.slot q5),.move (.t q),none⟩,⟨0,0,0⟩),
  (⟨(.slot q6),.bin .add (.t q5) (.k (.int .i64 1)),none⟩,⟨0,0,0⟩),
  (⟨(.slot q7),.iaddr 1 (.t q4) (.t q6),none⟩,⟨0,0,0⟩),
  (⟨(.slot q00),.load false 1 (.t q7),none⟩,⟨1,0,0⟩),
  (⟨(.slot q10),.move (.t q),none⟩,⟨0,0,0⟩),
  (⟨(.slot q20),.iaddr 4 (.t q00) (.t q10),none⟩,⟨0,0,0⟩),
  (⟨(.slot q30),.load true 4 (.t q20),none⟩,⟨1,0,0⟩),
  (⟨(.slot q40),.call q75 [(.t q3),(.t q30)],none⟩,⟨3,0,1⟩),
  (⟨.drop,.store 4 (.t q0) (.t q40),none⟩,⟨3,1,2⟩)])
 (.seq (.regc (.pld true 4 (.t q0)
  (.pca q213 [(.l x0)]
  (.gen ⟨.push,.un .not (.l x0),none⟩
  .fin))) (.l x0) (.exit 2) .skip)
 (.regd [(⟨(.slot q50),.move (.t q1),none⟩,⟨0,0,2⟩),
  (⟨(.slot q60),.move (.t q62),none⟩,⟨0,0,1⟩),
  (⟨(.slot q70),.move (.t q),none⟩,⟨0,0,1⟩),
  (⟨(.slot q01),.iaddr 1 (.t q60) (.t q70),none⟩,⟨0,0,1⟩),
  (⟨(.slot q11),.load false 1 (.t q01),none⟩,⟨1,0,1⟩),
  (⟨(.slot q21),.load true 4 (.t q0),none⟩,⟨1,0,0⟩),
  (⟨(.slot q31),.move (.t q2),none⟩,⟨0,0,0⟩),
  (⟨(.slot q41),.move (.t q),none⟩,⟨0,0,0⟩),
  (⟨(.slot q51),.iaddr 1 (.t q31) (.t q41),none⟩,⟨0,0,0⟩),
  (⟨(.slot q61),.load false 1 (.t q51),none⟩,⟨1,0,0⟩),
  (⟨(.slot q71),.move (.t q52),none⟩,⟨0,0,0⟩),
  (⟨(.slot q02),.iaddr 4 (.t q61) (.t q71),none⟩,⟨0,0,0⟩),
  (⟨(.slot q12),.load true 4 (.t q02),none⟩,⟨1,0,0⟩),
  (⟨(.slot q22),.call q75 [(.t q21),(.t q12)],none⟩,⟨3,0,1⟩),
  (⟨(.slot q32),.call q113 [(.t q11),(.t q22)],none⟩,⟨3,1,2⟩),
  (⟨(.slot q42),.call q722 [(.t q50),(.t q32)],none⟩,⟨3,2,3⟩),
  (⟨(.slot q1),.move (.t q42),none⟩,⟨0,3,3⟩)]))))
 (.reg (.pb .sub (.t q) (.k (.int .i64 1))
  (.sm q (.l x0)
  .fin))))))))
 (.reg (.gen ⟨.push,.bsl 1 1 [.snil] [(0,(.t q1))],none⟩
  (.gen ⟨.push,.append 1 24 (.t q62) (.l x0),none⟩
  (.sm q62 (.l x0)
  .fin)))))))))
 (.reg (.pb .add (.t q72) (.k (.int .i64 1))
  (.sm q72 (.l x0)
  .fin))))))))
 (.seq (.reg (.pln (.t q2)
  (.pia 1 (.t q62) (.l x0)
  (.pld false 1 (.l x0)
  (.sm q35 (.l x0)
  (.sm q45 (.k (.int .i64 0))
  .fin))))))
 .ret))))))),[(q35,none),(q45,none)],[]⟩
def c136 : CFn := ⟨[some q51],(.seq (.reg (.sm q61 (.k .snil)
  (.gen ⟨(.slot q71),.box (.k (.agg [(.bool false),.snil,(.bool false),.snil])),none⟩
  .fin)))
 (.seq (.reg (.pca q313 [(.t q51)]
  (.sm q51 (.l x0)
  .fin)))
 (.seq (.regc (.pln (.t q51)
  (.pb .eql (.l x0) (.k (.int .i64 0))
  .fin)) (.l x0) (.seq (.reg (.pca q24 [(.k (.int .i64 0))]
  (.sm q61 (.k .snil)
  (.st 4 (.t q71) (.l x0)
  .fin))))
 .ret) .skip)
 (.seq (.reg (.pca q211 [(.k (.int .i64 1))]
  (.gen ⟨(.slot q),.box (.k (.agg [(.bool false),.snil])),none⟩
  (.st 2 (.t q) (.l x0)
  .fin))))
 (.seq (.seq (.reg (.sm q11 (.t q51)
  (.gen ⟨(.slot q31),.len (.t q11),none⟩
  (.sm q0 (.k (.int .i64 0))
  .fin))))
 (.block 0 (.loop (.seq (.regc (.pb .lss (.t q0) (.t q31)
  .fin) (.l x0) .skip (.exit 0))
 (.seq (.block 1 (.seq (.reg (.pia 4 (.t q11) (.t q0)
  (.pld true 4 (.l x0)
  (.gen ⟨(.slot q2),.box (.k (.agg [(.bool false),.snil,(.bool false),.snil])),none⟩
  (.st 4 (.t q2) (.l x0)
  .fin)))))
 (.seq (.regd [(⟨(.slot q00),.faddr 2 (.t q2),none⟩,⟨0,0,1⟩),
  (⟨(.slot q10),.load true 2 (.t q00),none⟩,⟨1,0,1⟩),
  (⟨(.slot q20),.load true 2 (.t q),none⟩,⟨1,0,0⟩),
  (⟨(.slot q30),.faddr 2 (.t q2),none⟩,⟨0,0,0⟩),
  (⟨(.slot q40),.load true 2 (.t q30),none⟩,⟨1,0,0⟩),
  (⟨(.slot q50),.call q242 [(.t q20),(.t q40)],none⟩,⟨3,0,1⟩),
  (⟨(.slot q60),.call q342 [(.t q10),(.t q50)],none⟩,⟨3,1,2⟩),
  (⟨(.slot q6),.move (.t q60),none⟩,⟨0,2,2⟩),
  (⟨(.slot q70),.extract (.t q6) 0,none⟩,⟨0,2,2⟩),
  (⟨(.slot q01),.extract (.t q6) 1,none⟩,⟨0,2,3⟩),
  (⟨(.slot q4),.box (.k (.agg [(.bool false),.snil])),none⟩,⟨2,0,2⟩),
  (⟨.drop,.store 2 (.t q4) (.t q70),none⟩,⟨3,2,3⟩),
  (⟨.drop,.move (.t q01),none⟩,⟨0,3,3⟩)])
 (.reg (.pld true 2 (.t q)
  (.pld true 2 (.t q4)
  (.pca q431 [(.l x1),(.l x0)]
  (.st 2 (.t q) (.l x0)
  .fin))))))))
 (.reg (.pb .add (.t q0) (.k (.int .i64 1))
  (.sm q0 (.l x0)
  .fin))))))))
 (.seq (.reg (.sm q7 (.k .snil)
  .fin))
 (.seq (.seq (.reg (.sm q21 (.t q51)
  (.gen ⟨(.slot q41),.len (.t q21),none⟩
  (.sm q1 (.k (.int .i64 0))
  .fin))))
 (.block 2 (.loop (.seq (.regc (.pb .lss (.t q1) (.t q41)
  .fin) (.l x0) .skip (.exit 2))
 (.seq (.block 3 (.seq (.reg (.pia 4 (.t q21) (.t q1)
  (.pld true 4 (.l x0)
  (.gen ⟨(.slot q3),.box (.k (.agg [(.bool false),.snil,(.bool false),.snil])),none⟩
  (.st 4 (.t q3) (.l x0)
  .fin)))))
 (.seq (.reg (.pld true 2 (.t q)
  (.pfa 2 (.t q3)
  (.pld true 2 (.l x0)
  (.pca q342 [(.l x2),(.l x0)]
  (.pex (.l x0) 0
  (.pex (.l x1) 1
  (.gen ⟨(.slot q5),.box (.k (.agg [(.bool false),.snil])),none⟩
  (.st 2 (.t q5) (.l x1)
  .fin)))))))))
 (.reg (.pfa 0 (.t q3)
  (.pld true 2 (.l x0)
  (.pld true 2 (.t q5)
  (.pca q431 [(.l x1),(.l x0)]
  (.gen ⟨.push,.bsl 2 1 [(.bool false),.snil] [(0,(.l x0))],none⟩
  (.gen ⟨.push,.append 2 32 (.t q7) (.l x0),none⟩
  (.sm q7 (.l x0)
  .fin)))))))))))
 (.reg (.pb .add (.t q1) (.k (.int .i64 1))
  (.sm q1 (.l x0)
  .fin))))))))
 (.seq (.reg (.pca q413 [(.t q7)]
  (.sm q02 (.l x0)
  .fin)))
 (.seq (.regd [(⟨(.slot q42),.move (.t q7),none⟩,⟨0,0,0⟩),
  (⟨(.slot q52),.move (.t q7),none⟩,⟨0,0,0⟩),
  (⟨(.slot q62),.len (.t q52),none⟩,⟨0,0,0⟩),
  (⟨(.slot q72),.bin .sub (.t q62) (.k (.int .i64 1)),none⟩,⟨0,0,0⟩),
  (⟨(.slot q03),.iaddr 2 (.t q42) (.t q72),none⟩,⟨0,0,0⟩),
  (⟨(.slot q13),.load true 2 (.t q03),none⟩,⟨1,0,0⟩),
  (⟨(.slot q23),.move (.t q02),none⟩,⟨0,0,0⟩),
  (⟨(.slot q33),.move (.t q02),none⟩,⟨0,0,0⟩),
  (⟨(.slot q43),.len (.t q33),none⟩,⟨0,0,0⟩),
  (⟨(.slot q53),.bin .sub (.t q43) (.k (.int .i64 1)),none⟩,⟨0,0,0⟩),
  (⟨(.slot q63),.iaddr 2 (.t q23) (.t q53),none⟩,⟨0,0,0⟩),
  (⟨(.slot q73),.load true 2 (.t q63),none⟩,⟨1,0,0⟩),
  (⟨(.slot q04),.call q342 [(.t q13),(.t q73)],none⟩,⟨3,0,1⟩),
  (⟨(.slot q32),.move (.t q04),none⟩,⟨0,1,1⟩),
  (⟨(.slot q14),.extract (.t q32) 0,none⟩,⟨0,1,1⟩),
  (⟨(.slot q24),.extract (.t q32) 1,none⟩,⟨0,1,2⟩),
  (⟨(.slot q12),.box (.k (.agg [(.bool false),.snil])),none⟩,⟨2,0,1⟩),
  (⟨.drop,.store 2 (.t q12) (.t q14),none⟩,⟨3,1,2⟩),
  (⟨.drop,.move (.t q24),none⟩,⟨0,2,2⟩)])
 (.seq (.reg (.pld true 2 (.t q12)
  (.pld true 2 (.t q)
  (.pca q672 [(.l x1),(.l x0)]
  (.pex (.l x0) 0
  (.pex (.l x1) 1
  (.gen ⟨(.slot q22),.box (.k (.agg [(.bool false),.snil,(.bool false),.snil])),none⟩
  (.st 4 (.t q22) (.l x1)
  .fin))))))))
 (.seq (.regd [(⟨(.slot q34),.move (.t q02),none⟩,⟨0,0,0⟩),
  (⟨(.slot q44),.load true 4 (.t q22),none⟩,⟨1,0,0⟩),
  (⟨(.slot q61),.move (.t q34),none⟩,⟨0,0,0⟩),
  (⟨.drop,.store 4 (.t q71) (.t q44),none⟩,⟨3,0,1⟩)])
 .ret))))))))))),[(q61,none),(q71,some (true,4))],[]⟩
def c137 : CFn := ⟨[some q6],(.seq (.reg (.gen ⟨(.slot q5),.box (.k (.agg [(.bool false),.snil])),none⟩
  (.sm q4 (.k .snil)
  (.sm q00 (.k (.int .i64 0))
  .fin))))
 (.seq (.reg (.pca q63 [(.t q6)]
  (.sm q6 (.l x0)
  .fin)))
 (.seq (.regc (.pln (.t q6)
  (.pb .eql (.l x0) (.k (.int .i64 0))
  .fin)) (.l x0) (.seq (.reg (.gen ⟨.push,.build [(.bool false),.snil] [],none⟩
  (.st 2 (.t q5) (.l x0)
  (.sm q4 (.k .snil)
  (.sm q00 (.k (.int .i64 5))
  .fin)))))
 .ret) .skip)
 (.seq (.reg (.pca q413 [(.t q6)]
  (.sm q7 (.l x0)
  .fin)))
 (.seq (.reg (.pca q513 [(.t q6)]
  (.pca q513 [(.t q7)]
  (.pca q342 [(.l x1),(.l x0)]
  (.pex (.l x0) 0
  (.pex (.l x1) 1
  (.st 2 (.t q5) (.l x1)
  .fin)))))))
 (.seq (.reg (.pca q713 [(.t q7)]
  (.pca q613 [(.t q7),(.l x0)]
  (.sm q1 (.l x0)
  .fin))))
 (.seq (.reg (.pca q023 [(.t q7),(.t q1)]
  (.pex (.l x0) 0
  (.pex (.l x1) 1
  (.sm q (.l x1)
  .fin)))))
 (.seq (.seq (.reg (.sm q2 (.k (.int .i64 1))
  .fin))
 (.block 0 (.loop (.seq (.regc (.pln (.t q)
  (.pb .gtr (.l x0) (.k (.int .i64 1))
  .fin)) (.l x0) .skip (.exit 0))
 (.seq (.block 1 (.seq (.reg (.pca q613 [(.t q),(.t q1)]
  (.sm q0 (.l x0)
  .fin)))
 (.seq (.reg (.pca q023 [(.t q),(.t q0)]
  (.pex (.l x0) 0
  (.pex (.l x1) 1
  (.sm q3 (.l x1)
  .fin)))))
 (.seq (.regc (.pln (.t q3)
  (.pb .gtr (.l x0) (.k (.int .i64 1))
  .fin)) (.l x0) (.reg (.gen ⟨.push,.build [.snil,(.int .i64 0)] [(0,1,(.t q3)),(1,1,(.t q2))],none⟩
  (.gen ⟨.push,.bsl 2 1 [.snil,(.int .i64 0)] [(0,(.l x0))],none⟩
  (.gen ⟨.push,.append 2 32 (.t q4) (.l x0),none⟩
  (.sm q4 (.l x0)
  .fin))))) .skip)
 (.seq (.reg (.sm q (.t q0)
  .fin))
 (.reg (.pca q023 [(.t q1),(.t q0)]
  (.pex (.l x0) 0
  (.pex (.l x1) 1
  (.sm q1 (.l x1)
  .fin))))))))))
 (.reg (.pb .add (.t q2) (.k (.int .i64 1))
  (.sm q2 (.l x0)
  .fin))))))))
 (.seq (.reg (.pld true 2 (.t q5)
  (.st 2 (.t q5) (.l x0)
  (.sm q4 (.t q4)
  (.sm q00 (.k (.int .i64 0))
  .fin)))))
 .ret))))))))),[(q5,some (true,2)),(q4,none),(q00,none)],[]⟩
def c138 : CFn := ⟨[some q20],(.seq (.reg (.gen ⟨(.slot q10),.box (.k (.agg [(.bool false),.snil])),none⟩
  (.sm q0 (.k .snil)
  (.sm q00 (.k (.int .i64 0))
  .fin))))
 (.seq (.reg (.pca q123 [(.t q20)]
  (.pex (.l x0) 0
  (.pex (.l x1) 1
  (.sm q20 (.l x1)
  (.sm q00 (.l x0)
  .fin))))))
 (.seq (.regc (.pb .neq (.t q00) (.k (.int .i64 0))
  .fin) (.l x0) (.seq (.reg (.gen ⟨.push,.build [(.bool false),.snil] [],none⟩
  (.gen ⟨.push,.move (.t q00),none⟩
  (.st 2 (.t q10) (.l x1)
  (.sm q0 (.k .snil)
  (.sm q00 (.l x0)
  .fin))))))
 .ret) .skip)
 (.seq (.reg (.pca q112 [(.t q20)]
  (.pex (.l x0) 0
  (.pex (.l x1) 1
  (.pex (.l x2) 2
  (.st 2 (.t q10) (.l x2)
  (.sm q30 (.l x1)
  .fin)))))))
 (.seq (.seq (.reg (.sm q6 (.t q30)
  (.gen ⟨(.slot q7),.len (.t q6),none⟩
  (.sm q5 (.k (.int .i64 0))
  .fin))))
 (.block 0 (.loop (.seq (.regc (.pb .lss (.t q5) (.t q7)
  .fin) (.l x0) .skip (.exit 0))
 (.seq (.block 1 (.seq (.reg (.pia 2 (.t q6) (.t q5)
  (.pld true 2 (.l x0)
  (.gen ⟨(.slot q2),.box (.k (.agg [.snil,(.int .i64 0)])),none⟩
  (.st 2 (.t q2) (.l x0)
  .fin)))))
 (.seq (.reg (.pfa 0 (.t q2)
  (.pld false 1 (.l x0)
  (.gen ⟨(.slot q3),.call q223 [(.l x0)],none⟩
  (.gen ⟨(.slot q4),.len (.t q3),none⟩
  (.sm q (.k (.int .i64 0))
  .fin))))))
 (.block 2 (.loop (.seq (.regc (.pb .lss (.t q) (.t q4)
  .fin) (.l x0) .skip (.exit 2))
 (.seq (.block 3 (.seq (.reg (.pia 1 (.t q3) (.t q)
  (.pld false 1 (.l x0)
  (.sm q1 (.l x0)
  .fin))))
 (.reg (.pfa 1 (.t q2)
  (.pld false 1 (.l x0)
  (.gen ⟨.push,.build [.snil,(.int .i64 0)] [(0,1,(.t q1)),(1,1,(.l x0))],none⟩
  (.gen ⟨.push,.bsl 2 1 [.snil,(.int .i64 0)] [(0,(.l x0))],none⟩
  (.gen ⟨.push,.append 2 32 (.t q0) (.l x0),none⟩
  (.sm q0 (.l x0)
  .fin)))))))))
 (.reg (.pb .add (.t q) (.k (.int .i64 1))
  (.sm q (.l x0)
  .fin))))))))))
 (.reg (.pb .add (.t q5) (.k (.int .i64 1))
  (.sm q5 (.l x0)
  .fin))))))))
 (.seq (.reg (.pca q323 [(.t q0),(.k (.fnv q423 []))]
  .fin))
 (.seq (.reg (.pld true 2 (.t q10)
  (.st 2 (.t q10) (.l x0)
  (.sm q0 (.t q0)
  (.sm q00 (.k (.int .i64 0))
  .fin)))))
 .ret))))))),[(q10,some (true,2)),(q0,none),(q00,none)],[]⟩
def c139 : CFn := ⟨[some q40,some q11],(.seq (.reg (.gen ⟨(.slot q30),.box (.t q11),none⟩
  (.gen ⟨(.slot q60),.box (.k (.agg [(.int .i64 0),(.int .i64 0),.snil])),none⟩
  (.sm q70 (.k (.int .i64 0))
  .fin))))
 (.seq (.seq (.reg (.pld true 3 (.t q30)
  (.pca q403 [(.l x0)]
  (.sm q01 (.l x0)
  .fin))))
 (.regc (.pb .neq (.t q01) (.k (.int .i64 0))
  .fin) (.l x0) (.seq (.reg (.gen ⟨.push,.build [(.int .i64 0),(.int .i64 0),.snil] [],none⟩
  (.st 3 (.t q60) (.l x0)
  (.sm q70 (.t q01)
  .fin))))
 .ret) .skip))
 (.seq (.reg (.pca q313 [(.t q40)]
  (.sm q40 (.l x0)
  .fin)))
 (.seq (.regc (.pln (.t q40)
  (.pb .sub (.l x0) (.k (.int .i64 1))
  (.pb .gtr (.l x0) (.k (.int .i64 64))
  .fin))) (.l x0) (.seq (.reg (.gen ⟨.push,.build [(.int .i64 0),(.int .i64 0),.snil] [],none⟩
  (.st 3 (.t q60) (.l x0)
  (.sm q70 (.k (.int .i64 7))
  .fin))))
 .ret) .skip)
 (.seq (.reg (.pfa 0 (.t q30)
  (.pld false 1 (.l x0)
  (.pfa 0 (.t q30)
  (.pld false 1 (.l x0)
  (.pca q302 [(.l x2),(.l x0)]
  (.pex (.l x0) 0
  (.pex (.l x1) 1
  (.gen ⟨(.slot q),.box (.k (.agg [(.int .i64 0),(.int .i64 0),.snil])),none⟩
  (.st 3 (.t q) (.l x1)
  .fin))))))))))
 (.seq (.reg (.pfa 0 (.t q30)
  (.pld false 1 (.l x0)
  (.pca q732 [(.l x0)]
  (.pex (.l x0) 0
  (.pex (.l x1) 1
  (.gen ⟨(.slot q50),.box (.k (.agg [(.int .i64 0),(.int .i64 0),.snil])),none⟩
  (.st 3 (.t q50) (.l x1)
  .fin))))))))
 (.seq (.seq (.reg (.pln (.t q40)
  (.pb .sub (.l x0) (.k (.int .i64 1))
  (.sm q0 (.l x0)
  .fin))))
 (.block 0 (.loop (.seq (.regc (.pb .geq (.t q0) (.k (.int .i64 0))
  .fin) (.l x0) .skip (.exit 0))
 (.seq (.block 1 (.seq (.reg (.pld true 3 (.t q)
  (.pld true 3 (.t q30)
  (.pca q371 [(.l x1),(.l x0)]
  (.pex (.l x0) 0
  (.pex (.l x1) 1
  (.st 3 (.t q) (.l x1)
  .fin)))))))
 (.seq (.regd [(⟨(.slot q3),.load true 3 (.t q50),none⟩,⟨1,0,0⟩),
  (⟨(.slot q4),.move (.t q40),none⟩,⟨0,0,0⟩),
  (⟨(.slot q5),.move (.t q0),none⟩,⟨0,0,0⟩),
  (⟨(.slot q6),.iaddr 4 (.t q4) (.t q5),none⟩,⟨0,0,0⟩),
  (⟨(.slot q7),.load true 4 (.t q6),none⟩,⟨1,0,0⟩),
  (⟨(.slot q00),.call q402 [(.t q3),(.t q7)],none⟩,⟨3,0,1⟩),
  (⟨(.slot q2),.move (.t q00),none⟩,⟨0,1,1⟩),
  (⟨(.slot q10),.extract (.t q2) 0,none⟩,⟨0,1,1⟩),
  (⟨(.slot q20),.extract (.t q2) 1,none⟩,⟨0,1,2⟩),
  (⟨(.slot q1),.box (.k (.agg [(.int .i64 0),(.int .i64 0),.snil])),none⟩,⟨2,0,1⟩),
  (⟨.drop,.store 3 (.t q1) (.t q10),none⟩,⟨3,1,2⟩),
  (⟨.drop,.move (.t q20),none⟩,⟨0,2,2⟩)])
 (.reg (.pld true 3 (.t q)
  (.pld true 3 (.t q1)
  (.pca q602 [(.l x1),(.l x0)]
  (.pex (.l x0) 0
  (.pex (.l x1) 1
  (.st 3 (.t q) (.l x1)
  .fin))))))))))
 (.reg (.pb .sub (.t q0) (.k (.int .i64 1))
  (.sm q0 (.l x0)
  .fin))))))))
 (.seq (.reg (.pld true 3 (.t q)
  (.st 3 (.t q60) (.l x0)
  (.sm q70 (.k (.int .i64 0))
  .fin))))
 .ret)))))))),[(q60,some (true,3)),(q70,none)],[]⟩
def c140 : CFn := ⟨[some q6],(.seq (.reg (.sm q5 (.k .snil)
  .fin))
 (.seq (.reg (.pln (.t q6)
  (.gen ⟨.push,.mksl 4 64 [(.bool false),.snil,(.bool false),.snil] (.l x0) (.l x0),none⟩
  (.sm q2 (.l x0)
  .fin))))
 (.seq (.seq (.reg (.sm q3 (.t q6)
  (.gen ⟨(.slot q4),.len (.t q3),none⟩
  (.sm q (.k (.int .i64 0))
  .fin))))
 (.block 0 (.loop (.seq (.regc (.pb .lss (.t q) (.t q4)
  .fin) (.l x0) .skip (.exit 0))
 (.seq (.block 1 (.seq (.reg (.gen ⟨.push,.move (.t q),none⟩
  (.pia 2 (.t q3) (.t q)
  (.pld true 2 (.l x0)
  (.gen ⟨(.slot q0),.box (.k (.agg [(.bool false),.snil])),none⟩
  (.sm q1 (.l x2)
  (.st 2 (.t q0) (.l x0)
  .fin)))))))
 (.reg (.pld true 2 (.t q0)
  (.pca q502 [(.l x0)]
  (.pia 4 (.t q2) (.t q1)
  (.st 4 (.l x0) (.l x1)
  .fin)))))))
 (.reg (.pb .add (.t q) (.k (.int .i64 1))
  (.sm q (.l x0)
  .fin))))))))
 (.seq (.reg (.pca q623 [(.t q2)]
  (.sm q5 (.l x0)
  .fin)))
 .ret)))),[(q5,none)],[]⟩
def c141 : CFn := ⟨[some q4],(.seq (.reg (.gen ⟨(.slot q3),.box (.t q4),none⟩
  (.gen ⟨(.slot q),.box (.k (.agg [(.int .i64 0),(.int .i64 0),(.int .i64 0),.snil])),none⟩
  (.sm q0 (.k (.int .i64 0))
  .fin))))
 (.seq (.reg (.pld true 3 (.t q3)
  (.pca q632 [(.l x0)]
  (.pex (.l x0) 0
  (.pex (.l x1) 1
  (.pex (.l x2) 2
  (.gen ⟨(.slot q1),.box (.k (.agg [(.int .i64 0),(.int .i64 0),.snil])),none⟩
  (.st 3 (.t q1) (.l x2)
  (.sm q2 (.l x0)
  .fin)))))))))
 (.seq (.regc (.pb .neq (.t q2) (.k (.int .i64 0))
  .fin) (.l x0) (.seq (.reg (.gen ⟨.push,.build [(.int .i64 0),(.int .i64 0),(.int .i64 0),.snil] [],none⟩
  (.st 4 (.t q) (.l x0)
  (.sm q0 (.t q2)
  .fin))))
 .ret) .skip)
 (.seq (.reg (.pld true 3 (.t q1)
  (.pca q723 [(.l x0)]
  (.st 4 (.t q) (.l x0)
  (.sm q0 (.k (.int .i64 0))
  .fin)))))
 .ret)))),[(q,some (true,4)),(q0,none)],[]⟩
def c142 : CFn := ⟨[some q13,some q23],(.seq (.reg (.gen ⟨(.slot q02),.box (.t q13),none⟩
  (.gen ⟨(.slot q51),.box (.k (.agg [.snil])),none⟩
  (.sm q61 (.k .snil)
  (.sm q71 (.k (.int .i64 0))
  .fin)))))
 (.seq (.reg (.pld true 3 (.t q02)
  (.pca q033 [(.l x0)]
  (.pex (.l x0) 0
  (.pex (.l x1) 1
  (.gen ⟨(.slot q42),.box (.k (.agg [(.int .i64 0),(.int .i64 0),.snil])),none⟩
  (.st 3 (.t q42) (.l x1)
  (.sm q12 (.l x0)
  .fin))))))))
 (.seq (.regc (.pb .neq (.t q12) (.k (.int .i64 0))
  (.gen ⟨.push,.faddr 0 (.t q02),some ((.l x0),false)⟩
  (.gen ⟨.push,.load false 1 (.l x0),some ((.l x1),false)⟩
  (.gen ⟨.push,.faddr 1 (.t q02),some ((.l x2),false)⟩
  (.gen ⟨.push,.load false 1 (.l x0),some ((.l x3),false)⟩
  (.gen ⟨.push,.bin .neq (.l x2) (.l x0),some ((.l x4),false)⟩
  (.gen ⟨.push,.pick (.l x5) (.k (.bool true)) (.l x0),none⟩
  .fin))))))) (.l x0) (.seq (.reg (.gen ⟨.push,.build [.snil] [],none⟩
  (.st 1 (.t q51) (.l x0)
  (.sm q61 (.k .snil)
  (.sm q71 (.k (.int .i64 4))
  .fin)))))
 .ret) .skip)
 (.seq (.reg (.pca q133 [(.t q23)]
  (.pex (.l x0) 0
  (.pex (.l x1) 1
  (.gen ⟨(.slot q22),.box (.k (.agg [.snil])),none⟩
  (.st 1 (.t q22) (.l x1)
  (.sm q12 (.l x0)
  .fin)))))))
 (.seq (.regc (.pb .neq (.t q12) (.k (.int .i64 0))
  .fin) (.l x0) (.seq (.reg (.gen ⟨.push,.build [.snil] [],none⟩
  (.gen ⟨.push,.move (.t q12),none⟩
  (.st 1 (.t q51) (.l x1)
  (.sm q61 (.k .snil)
  (.sm q71 (.l x0)
  .fin))))))
 .ret) .skip)
 (.seq (.reg (.pld true 1 (.t q22)
  (.pca q233 [(.l x0)]
  (.pex (.l x0) 0
  (.pex (.l x1) 1
  (.sm q1 (.l x1)
  .fin))))))
 (.seq (.reg (.pld true 3 (.t q42)
  (.pca q333 [(.t q1),(.l x0)]
  (.sm q2 (.l x0)
  .fin))))
 (.seq (.seq (.reg (.gen ⟨(.slot q41),.len (.t q2),none⟩
  (.sm q0 (.k (.int .i64 0))
  .fin)))
 (.block 0 (.loop (.seq (.regc (.pb .lss (.t q0) (.t q41)
  .fin) (.l x0) .skip (.exit 0))
 (.seq (.block 1 (.seq (.reg (.sm q (.t q0)
  .fin))
 (.regd [(⟨(.slot q3),.move (.t q2),none⟩,⟨0,0,2⟩),
  (⟨(.slot q4),.move (.t q),none⟩,⟨0,0,2⟩),
  (⟨(.slot q5),.iaddr 1 (.t q3) (.t q4),none⟩,⟨0,0,2⟩),
  (⟨(.slot q6),.load false 1 (.t q5),none⟩,⟨1,0,2⟩),
  (⟨(.slot q7),.move (.t q),none⟩,⟨0,0,2⟩),
  (⟨(.slot q00),.move (.t q1),none⟩,⟨0,0,1⟩),
  (⟨(.slot q10),.move (.t q2),none⟩,⟨0,0,1⟩),
  (⟨(.slot q20),.move (.t q),none⟩,⟨0,0,1⟩),
  (⟨(.slot q30),.iaddr 1 (.t q10) (.t q20),none⟩,⟨0,0,1⟩),
  (⟨(.slot q40),.load false 1 (.t q30),none⟩,⟨1,0,1⟩),
  (⟨(.slot q50),.move (.t q),none⟩,⟨0,0,1⟩),
  (⟨(.slot q60),.iaddr 1 (.t q40) (.t q50),none⟩,⟨0,0,1⟩),
  (⟨(.slot q70),.load false 1 (.t q60),none⟩,⟨1,0,1⟩),
  (⟨(.slot q01),.move (.t q1),none⟩,⟨0,0,0⟩),
  (⟨(.slot q11),.call q533 [(.t q01)],none⟩,⟨3,0,1⟩),
  (⟨(.slot q21),.call q433 [(.t q00),(.t q70),(.t q11)],none⟩,⟨3,1,2⟩),
  (⟨(.slot q31),.iaddr 1 (.t q6) (.t q7),none⟩,⟨0,2,2⟩),
  (⟨.drop,.store 1 (.t q31) (.t q21),none⟩,⟨3,2,3⟩)])))
 (.reg (.pb .add (.t q0) (.k (.int .i64 1))
  (.sm q0 (.l x0)
  .fin))))))))
 (.seq (.reg (.pfa 1 (.t q02)
  (.pld false 1 (.l x0)
  (.pca q633 [(.t q1),(.t q2),(.l x0)]
  (.sm q32 (.l x0)
  .fin)))))
 (.seq (.block 2 (.regc (.pln (.t q32)
  (.pb .eql (.l x0) (.k (.int .i64 0))
  .fin)) (.l x0) (.seq (.reg (.gen ⟨.push,.build [.snil] [],none⟩
  (.st 1 (.t q51) (.l x0)
  (.sm q61 (.k .snil)
  (.sm q71 (.k (.int .i64 12))
  .fin)))))
 .ret) (.regc (.pln (.t q32)
  (.pb .gtr (.l x0) (.k (.int .i64 1))
  .fin)) (.l x0) (.seq (.reg (.gen ⟨.push,.build [.snil] [],none⟩
  (.st 1 (.t q51) (.l x0)
  (.sm q61 (.k .snil)
  (.sm q71 (.k (.int .i64 24))
  .fin)))))
 .ret) .skip)))
 (.seq (.regd [(⟨(.slot q52),.load true 1 (.t q22),none⟩,⟨1,0,0⟩),
  (⟨(.slot q62),.move (.t q32),none⟩,⟨0,0,1⟩),
  (⟨(.slot q72),.iaddr 1 (.t q62) (.k (.int .i64 0)),none⟩,⟨0,0,1⟩),
  (⟨(.slot q03),.load false 1 (.t q72),none⟩,⟨1,0,1⟩),
  (⟨.drop,.store 1 (.t q51) (.t q52),none⟩,⟨3,0,1⟩),
  (⟨(.slot q61),.move (.t q03),none⟩,⟨0,1,1⟩),
  (⟨(.slot q71),.move (.k (.int .i64 0)),none⟩,⟨0,1,1⟩)])
 .ret))))))))))),[(q51,some (true,1)),(q61,none),(q71,none)],[]⟩
def c143 : CFn := ⟨[some q2,some q3],(.seq (.reg (.gen ⟨(.slot q0),.box (.t q2),none⟩
  (.gen ⟨(.slot q1),.box (.t q3),none⟩
  (.sm q (.k (.int .i64 0))
  .fin))))
 (.seq (.reg (.pld true 4 (.t q0)
  (.pld true 4 (.t q1)
  (.pca q261 [(.l x1),(.l x0)]
  (.pca q15 [(.l x0)]
  (.sm q (.l x0)
  .fin))))))
 .ret)),[(q,none)],[]⟩
def c144 : CFn := ⟨[some q3,some q1],(.seq (.reg (.sm q (.k .snil)
  (.sm q0 (.k .snil)
  (.sm q2 (.k (.int .i64 0))
  .fin))))
 (.seq (.reg (.pca q313 [(.t q1)]
  (.sm q1 (.l x0)
  .fin)))
 (.seq (.regc (.pln (.t q1)
  (.pb .eql (.l x0) (.k (.int .i64 0))
  .fin)) (.l x0) (.seq (.reg (.sm q (.k .snil)
  (.sm q0 (.k .snil)
  (.sm q2 (.k (.int .i64 5))
  .fin))))
 .ret) .skip)
 (.seq (.reg (.pca q313 [(.t q3)]
  (.pca q733 [(.l x0),(.t q1)]
  (.pex (.l x0) 0
  (.pex (.l x1) 1
  (.sm q (.l x1)
  (.sm q0 (.l x0)
  .fin)))))))
 (.seq (.reg (.gen ⟨.push,.move (.t q0),none⟩
  (.sm q (.t q)
  (.sm q0 (.l x0)
  (.sm q2 (.k (.int .i64 0))
  .fin)))))
 .ret))))),[(q,none),(q0,none),(q2,none)],[]⟩
def c145 : CFn := ⟨[some q],(.seq (.reg (.sm q0 (.k .snil)
  .fin))
 (.seq (.block 0 (.regc (.pb .eql (.t q) (.k (.int .u64 0))
  .fin) (.l x0) (.seq (.reg (.sm q0 (.k .snil)
  .fin))
 .ret) (.regc (.pb .lss (.t q) (.k (.int .u64 4294967296))
  .fin) (.l x0) (.seq (.reg (.pcv .u32 (.t q)
  (.gen ⟨.push,.bsl 1 1 [(.int .u32 0)] [(0,(.l x0))],none⟩
  (.sm q0 (.l x0)
  .fin))))
 .ret) .skip)))
 (.seq (.reg (.pcv .u32 (.t q)
  (.pb .shr (.t q) (.k (.int .u64 32))
  (.pcv .u32 (.l x0)
  (.gen ⟨.push,.bsl 1 2 [(.int .u32 0)] [(0,(.l x2)),(1,(.l x0))],none⟩
  (.sm q0 (.l x0)
  .fin))))))
 .ret))),[(q0,none)],[]⟩
def c146 : CFn := ⟨[some q2,some q4],(.seq (.reg (.sm q1 (.k (.int .i64 0))
  .fin))
 (.seq (.seq (.reg (.gen ⟨(.slot q3),.len (.t q2),none⟩
  (.sm q (.k (.int .i64 0))
  .fin)))
 (.block 0 (.loop (.seq (.regc (.pb .lss (.t q) (.t q3)
  .fin) (.l x0) .skip (.exit 0))
 (.seq (.block 1 (.seq (.reg (.sm q0 (.t q)
  .fin))
 (.regc (.pia 1 (.t q2) (.t q0)
  (.pld false 1 (.l x0)
  (.gen ⟨.push,.callv (.t q4) [(.l x0)],none⟩
  .fin))) (.l x0) (.seq (.reg (.sm q1 (.t q0)
  .fin))
 .ret) .skip)))
 (.reg (.pb .add (.t q) (.k (.int .i64 1))
  (.sm q (.l x0)
  .fin))))))))
 (.seq (.reg (.sm q1 (.k (.int .i64 (-1)))
  .fin))
 .ret))),[(q1,none)],[]⟩
def c147 : CFn := ⟨[some q0],(.seq (.reg (.sm q (.k (.bool false))
  .fin))
 (.seq (.reg (.pln (.t q0)
  (.pb .gtr (.l x0) (.k (.int .i64 0))
  (.sm q (.l x0)
  .fin))))
 .ret)),[(q,none)],[]⟩
def c148 : CFn := ⟨[some q4,some q5,some q6],(.seq (.reg (.gen ⟨(.slot q2),.box (.t q4),none⟩
  (.sm q (.k .snil)
  (.sm q0 (.k (.int .i64 0))
  .fin))))
 (.seq (.reg (.pld true 1 (.t q2)
  (.pca q011 [(.l x0)]
  (.pex (.l x0) 0
  (.pex (.l x1) 1
  (.sm q3 (.l x1)
  (.sm q1 (.l x0)
  .fin)))))))
 (.seq (.regc (.pb .neq (.t q1) (.k (.int .i64 0))
  .fin) (.l x0) (.seq (.reg (.gen ⟨.push,.move (.t q1),none⟩
  (.sm q (.k .snil)
  (.sm q0 (.l x0)
  .fin))))
 .ret) .skip)
 (.seq (.reg (.pca q043 [(.t q3),(.t q5),(.t q6)]
  (.sm q (.l x0)
  (.sm q0 (.k (.int .i64 0))
  .fin))))
 .ret)))),[(q,none),(q0,none)],[]⟩
def c149 : CFn := ⟨[some q00],(.seq (.reg (.gen ⟨(.slot q),.box (.t q00),none⟩
  (.sm q0 (.k (.int .i64 0))
  .fin)))
 (.seq (.reg (.pld true 4 (.t q)
  (.pca q77 [(.l x0)]
  (.st 4 (.t q) (.l x0)
  .fin))))
 (.seq (.regd [(⟨(.slot q1),.faddr 0 (.t q),none⟩,⟨0,0,0⟩),
  (⟨(.slot q2),.load true 2 (.t q1),none⟩,⟨1,0,0⟩),
  (⟨(.slot q3),.call q143 [(.t q2)],none⟩,⟨3,0,1⟩),
  (⟨(.slot q4),.faddr 2 (.t q),none⟩,⟨0,0,1⟩),
  (⟨(.slot q5),.load true 2 (.t q4),none⟩,⟨1,0,1⟩),
  (⟨(.slot q6),.call q143 [(.t q5)],none⟩,⟨3,1,2⟩),
  (⟨(.slot q7),.max [(.t q3),(.t q6)],none⟩,⟨0,2,2⟩),
  (⟨(.slot q0),.move (.t q7),none⟩,⟨0,2,2⟩)])
 .ret))),[(q0,none)],[]⟩
def c150 : CFn := ⟨[some q6,some q1],(.seq (.reg (.gen ⟨(.slot q2),.box (.t q6),none⟩
  (.gen ⟨(.slot q3),.box (.k (.agg [(.bool false),.snil])),none⟩
  (.sm q4 (.k (.int .i64 0))
  .fin))))
 (.seq (.regc (.pb .lss (.t q1) (.k (.int .i64 0))
  .fin) (.l x0) (.seq (.reg (.gen ⟨.push,.build [(.bool false),.snil] [],none⟩
  (.st 2 (.t q3) (.l x0)
  (.sm q4 (.k (.int .i64 2))
  .fin))))
 .ret) .skip)
 (.seq (.reg (.pld true 2 (.t q2)
  (.pca q143 [(.l x0)]
  (.sm q5 (.l x0)
  .fin))))
 (.seq (.regc (.pb .gtr (.t q5) (.k (.int .i64 1))
  (.gen ⟨.push,.move (.t q1),some ((.l x0),true)⟩
  (.gen ⟨.push,.move (.t q5),some ((.l x1),true)⟩
  (.gen ⟨.push,.bin .quo (.k (.int .i64 1048576)) (.l x0),some ((.l x2),true)⟩
  (.gen ⟨.push,.bin .gtr (.l x2) (.l x0),some ((.l x3),true)⟩
  (.gen ⟨.push,.pick (.l x4) (.l x0) (.k (.bool false)),none⟩
  .fin)))))) (.l x0) (.seq (.reg (.gen ⟨.push,.build [(.bool false),.snil] [],none⟩
  (.st 2 (.t q3) (.l x0)
  (.sm q4 (.k (.int .i64 7))
  .fin))))
 .ret) .skip)
 (.seq (.regc (.pb .leq (.t q5) (.k (.int .i64 1))
  .fin) (.l x0) (.reg (.pb .rem (.t q1) (.k (.int .i64 2))
  (.pb .add (.k (.int .i64 2)) (.l x0)
  (.gen ⟨.push,.min [(.t q1),(.l x0)],none⟩
  (.sm q1 (.l x0)
  .fin))))) .skip)
 (.seq (.reg (.pca q211 [(.k (.int .i64 1))]
  (.gen ⟨(.slot q),.box (.k (.agg [(.bool false),.snil])),none⟩
  (.st 2 (.t q) (.l x0)
  .fin))))
 (.seq (.seq (.reg (.pcv .u64 (.t q1)
  (.pca q243 [(.l x0)]
  (.pb .sub (.l x0) (.k (.int .i64 1))
  (.sm q0 (.l x0)
  .fin)))))
 (.block 0 (.loop (.seq (.regc (.pb .geq (.t q0) (.k (.int .i64 0))
  .fin) (.l x0) .skip (.exit 0))
 (.seq (.block 1 (.seq (.reg (.pld true 2 (.t q)
  (.pld true 2 (.t q)
  (.pca q431 [(.l x1),(.l x0)]
  (.st 2 (.t q) (.l x0)
  .fin)))))
 (.regc (.pb .shr (.t q1) (.t q0)
  (.pb .and (.l x0) (.k (.int .i64 1))
  (.pb .eql (.l x0) (.k (.int .i64 1))
  .fin))) (.l x0) (.reg (.pld true 2 (.t q)
  (.pld true 2 (.t q2)
  (.pca q431 [(.l x1),(.l x0)]
  (.st 2 (.t q) (.l x0)
  .fin))))) .skip)))
 (.reg (.pb .sub (.t q0) (.k (.int .i64 1))
  (.sm q0 (.l x0)
  .fin))))))))
 (.seq (.reg (.pld true 2 (.t q)
  (.st 2 (.t q3) (.l x0)
  (.sm q4 (.k (.int .i64 0))
  .fin))))
 .ret)))))))),[(q3,some (true,2)),(q4,none)],[]⟩
def c151 : CFn := ⟨[some q0,some q1],(.seq (.reg (.sm q (.k .snil)
  .fin))
 (.seq (.reg (.pca q343 [(.t q0),(.t q1),(.k (.fnv q261 []))]
  (.sm q (.l x0)
  .fin)))
 .ret)),[(q,none)],[]⟩
def c152 : CFn := ⟨[some q62,some q12],(.seq (.reg (.sm q52 (.k .snil)
  .fin))
 (.seq (.regc (.pln (.t q62)
  (.pb .eql (.l x0) (.k (.int .i64 0))
  (.gen ⟨.push,.move (.t q12),some ((.l x0),false)⟩
  (.gen ⟨.push,.len (.l x0),some ((.l x1),false)⟩
  (.gen ⟨.push,.bin .eql (.l x0) (.k (.int .i64 0)),some ((.l x2),false)⟩
  (.gen ⟨.push,.pick (.l x3) (.k (.bool true)) (.l x0),none⟩
  .fin)))))) (.l x0) (.seq (.reg (.sm q52 (.k .snil)
  .fin))
 .ret) .skip)
 (.seq (.reg (.pln (.t q62)
  (.pln (.t q12)
  (.pb .add (.l x1) (.l x0)
  (.pb .sub (.l x0) (.k (.int .i64 1))
  (.gen ⟨.push,.mksl 4 64 [(.bool false),.snil,(.bool false),.snil] (.l x0) (.l x0),none⟩
  (.sm q2 (.l x0)
  .fin)))))))
 (.seq (.seq (.reg (.gen ⟨(.slot q32),.len (.t q2),none⟩
  (.sm q71 (.k (.int .i64 0))
  .fin)))
 (.block 0 (.loop (.seq (.regc (.pb .lss (.t q71) (.t q32)
  .fin) (.l x0) .skip (.exit 0))
 (.seq (.block 1 (.seq (.reg (.sm q02 (.t q71)
  .fin))
 (.reg (.pca q24 [(.k (.int .i64 0))]
  (.pia 4 (.t q2) (.t q02)
  (.st 4 (.l x0) (.l x1)
  .fin))))))
 (.reg (.pb .add (.t q71) (.k (.int .i64 1))
  (.sm q71 (.l x0)
  .fin))))))))
 (.seq (.seq (.reg (.sm q22 (.t q62)
  (.gen ⟨(.slot q42),.len (.t q22),none⟩
  (.sm q61 (.k (.int .i64 0))
  .fin))))
 (.block 2 (.loop (.seq (.regc (.pb .lss (.t q61) (.t q42)
  .fin) (.l x0) .skip (.exit 2))
 (.seq (.block 3 (.seq (.reg (.gen ⟨.push,.move (.t q61),none⟩
  (.pia 4 (.t q22) (.t q61)
  (.pld true 4 (.l x0)
  (.gen ⟨(.slot q31),.box (.k (.agg [(.bool false),.snil,(.bool false),.snil])),none⟩
  (.sm q3 (.l x2)
  (.st 4 (.t q31) (.l x0)
  .fin)))))))
 (.seq (.regc (.pld true 4 (.t q31)
  (.pca q443 [(.l x0)]
  .fin)) (.l x0) (.exit 3) .skip)
 (.seq (.reg (.sm q41 (.t q12)
  (.gen ⟨(.slot q51),.len (.t q41),none⟩
  (.sm q (.k (.int .i64 0))
  .fin))))
 (.block 4 (.loop (.seq (.regc (.pb .lss (.t q) (.t q51)
  .fin) (.l x0) .skip (.exit 4))
 (.seq (.block 5 (.seq (.reg (.gen ⟨.push,.move (.t q),none⟩
  (.pia 4 (.t q41) (.t q)
  (.pld true 4 (.l x0)
  (.gen ⟨(.slot q0),.box (.k (.agg [(.bool false),.snil,(.bool false),.snil])),none⟩
  (.sm q1 (.l x2)
  (.st 4 (.t q0) (.l x0)
  .fin)))))))
 (.regc (.pld true 4 (.t q0)
  (.pca q443 [(.l x0)]
  (.gen ⟨.push,.un .not (.l x0),none⟩
  .fin))) (.l x0) (.regd [(⟨(.slot q4),.move (.t q2),none⟩,⟨0,0,2⟩),
  (⟨(.slot q5),.move (.t q3),none⟩,⟨0,0,2⟩),
  (⟨(.slot q6),.move (.t q1),none⟩,⟨0,0,2⟩),
  (⟨(.slot q7),.bin .add (.t q5) (.t q6),none⟩,⟨0,0,2⟩),
  (⟨(.slot q00),.move (.t q2),none⟩,⟨0,0,1⟩),
  (⟨(.slot q10),.move (.t q3),none⟩,⟨0,0,1⟩),
  (⟨(.slot q20),.move (.t q1),none⟩,⟨0,0,1⟩),
  (⟨(.slot q30),.bin .add (.t q10) (.t q20),none⟩,⟨0,0,1⟩),
  (⟨(.slot q40),.iaddr 4 (.t q00) (.t q30),none⟩,⟨0,0,1⟩),
  (⟨(.slot q50),.load true 4 (.t q40),none⟩,⟨1,0,1⟩),
  (⟨(.slot q60),.load true 4 (.t q31),none⟩,⟨1,0,0⟩),
  (⟨(.slot q70),.load true 4 (.t q0),none⟩,⟨1,0,0⟩),
  (⟨(.slot q01),.call q75 [(.t q60),(.t q70)],none⟩,⟨3,0,1⟩),
  (⟨(.slot q11),.call q26 [(.t q50),(.t q01)],none⟩,⟨3,1,2⟩),
  (⟨(.slot q21),.iaddr 4 (.t q4) (.t q7),none⟩,⟨0,2,2⟩),
  (⟨.drop,.store 4 (.t q21) (.t q11),none⟩,⟨3,2,3⟩)]) .skip)))
 (.reg (.pb .add (.t q) (.k (.int .i64 1))
  (.sm q (.l x0)
  .fin)))))))))))
 (.reg (.pb .add (.t q61) (.k (.int .i64 1))
  (.sm q61 (.l x0)
  .fin))))))))
 (.seq (.reg (.pca q623 [(.t q2)]
  (.sm q52 (.l x0)
  .fin)))
 .ret)))))),[(q52,none)],[]⟩
def c155 : CFn := ⟨[some q4,some q5],(.seq (.reg (.sm q0 (.k (.int .i64 0))
  (.sm q1 (.k (.int .i64 0))
  (.sm q6 (.k (.int .i64 0))
  (.sm q7 (.k (.int .i64 0))
  .fin)))))
 (.seq (.regc (.pb .lss (.t q4) (.k (.int .i64 (-2147483647)))
  (.gen ⟨.push,.move (.t q4),some ((.l x0),false)⟩
  (.gen ⟨.push,.bin .gtr (.l x0) (.k (.int .i64 2147483647)),some ((.l x1),false)⟩
  (.gen ⟨.push,.pick (.l x2) (.k (.bool true)) (.l x0),none⟩
  (.gen ⟨.push,.move (.t q5),some ((.l x0),false)⟩
  (.gen ⟨.push,.bin .lss (.l x0) (.k (.int .i64 (-2147483647))),some ((.l x1),false)⟩
  (.gen ⟨.push,.pick (.l x2) (.k (.bool true)) (.l x0),none⟩
  (.gen ⟨.push,.move (.t q5),some ((.l x0),false)⟩
  (.gen ⟨.push,.bin .gtr (.l x0) (.k (.int .i64 2147483647)),some ((.l x1),false)⟩
  (.gen ⟨.push,.pick (.l x2) (.k (.bool true)) (.l x0),none⟩
  .fin)))))))))) (.l x0) (.seq (.reg (.sm q0 (.k (.int .i64 0))
  (.sm q1 (.k (.int .i64 0))
  (.sm q6 (.k (.int .i64 0))
  (.sm q7 (.k (.int .i64 2))
  .fin)))))
 .ret) .skip)
 (.seq (.regc (.pb .eql (.t q5) (.k (.int .i64 0))
  .fin) (.l x0) (.seq (.regc (.pb .lss (.t q4) (.k (.int .i64 0))
  .fin) (.l x0) (.seq (.reg (.gen ⟨.push,.un .neg (.t q4),none⟩
  (.sm q0 (.l x0)
  (.sm q1 (.k (.int .i64 (-1)))
  (.sm q6 (.k (.int .i64 0))
  (.sm q7 (.k (.int .i64 0))
  .fin))))))
 .ret) .skip)
 (.seq (.reg (.gen ⟨.push,.min [(.t q4),(.k (.int .i64 1))],none⟩
  (.sm q0 (.t q4)
  (.sm q1 (.l x0)
  (.sm q6 (.k (.int .i64 0))
  (.sm q7 (.k (.int .i64 0))
  .fin))))))
 .ret)) .skip)
 (.seq (.reg (.sm q0 (.t q4)
  .fin))
 (.seq (.reg (.sm q1 (.k (.int .i64 1))
  (.sm q2 (.k (.int .i64 0))
  .fin)))
 (.seq (.seq (.reg (.sm q (.t q5)
  .fin))
 (.block 0 (.loop (.seq (.regc (.pb .neq (.t q) (.k (.int .i64 0))
  .fin) (.l x0) .skip (.exit 0))
 (.block 1 (.seq (.reg (.pb .quo (.t q0) (.t q)
  (.sm q3 (.l x0)
  .fin)))
 (.seq (.reg (.pb .mul (.t q3) (.t q)
  (.pb .sub (.t q0) (.l x0)
  (.sm q0 (.t q)
  (.sm q (.l x0)
  .fin)))))
 (.reg (.pb .mul (.t q3) (.t q2)
  (.pb .sub (.t q1) (.l x0)
  (.sm q1 (.t q2)
  (.sm q2 (.l x0)
  .fin))))))))))))
 (.seq (.regc (.pb .lss (.t q0) (.k (.int .i64 0))
  .fin) (.l x0) (.reg (.gen ⟨.push,.un .neg (.t q0),none⟩
  (.gen ⟨.push,.un .neg (.t q1),none⟩
  (.sm q0 (.l x1)
  (.sm q1 (.l x0)
  .fin))))) .skip)
 (.seq (.reg (.gen ⟨.push,.un .neg (.t q5),none⟩
  (.gen ⟨.push,.max [(.t q5),(.l x0)],none⟩
  (.pb .quo (.l x0) (.t q0)
  (.pca q241 [(.t q1),(.l x0)]
  (.sm q1 (.l x0)
  .fin))))))
 (.seq (.regd [(⟨(.slot q00),.move (.t q0),none⟩,⟨0,0,0⟩),
  (⟨(.slot q10),.move (.t q1),none⟩,⟨0,0,0⟩),
  (⟨(.slot q20),.move (.t q0),none⟩,⟨0,0,0⟩),
  (⟨(.slot q30),.move (.t q1),none⟩,⟨0,0,0⟩),
  (⟨(.slot q40),.move (.t q4),none⟩,⟨0,0,0⟩),
  (⟨(.slot q50),.bin .mul (.t q30) (.t q40),none⟩,⟨0,0,0⟩),
  (⟨(.slot q60),.bin .sub (.t q20) (.t q50),none⟩,⟨0,0,0⟩),
  (⟨(.slot q70),.move (.t q5),none⟩,⟨0,0,0⟩),
  (⟨(.slot q01),.bin .quo (.t q60) (.t q70),none⟩,⟨0,0,0⟩),
  (⟨(.slot q0),.move (.t q00),none⟩,⟨0,0,0⟩),
  (⟨(.slot q1),.move (.t q10),none⟩,⟨0,0,0⟩),
  (⟨(.slot q6),.move (.t q01),none⟩,⟨0,0,0⟩),
  (⟨(.slot q7),.move (.k (.int .i64 0)),none⟩,⟨0,0,0⟩)])
 .ret))))))))),[(q0,none),(q1,none),(q6,none),(q7,none)],[]⟩
def c157 : CFn := ⟨[some q31,some q41],(.seq (.reg (.gen ⟨(.slot q40),.box (.t q31),none⟩
  (.gen ⟨(.slot q11),.box (.t q41),none⟩
  (.gen ⟨(.slot q50),.box (.k (.agg [(.int .i64 0),(.int .i64 0),.snil])),none⟩
  (.sm q60 (.k (.int .i64 0))
  .fin)))))
 (.seq (.seq (.reg (.pld true 4 (.t q40)
  (.pld true 3 (.t q11)
  (.pca q153 [(.l x1),(.l x0)]
  (.sm q21 (.l x0)
  .fin)))))
 (.regc (.pb .neq (.t q21) (.k (.int .i64 0))
  .fin) (.l x0) (.seq (.reg (.gen ⟨.push,.build [(.int .i64 0),(.int .i64 0),.snil] [],none⟩
  (.st 3 (.t q50) (.l x0)
  (.sm q60 (.t q21)
  .fin))))
 .ret) .skip))
 (.seq (.reg (.pfa 1 (.t q40)
  (.pld true 3 (.l x0)
  (.pld true 3 (.t q11)
  (.pca q371 [(.l x1),(.l x0)]
  (.pex (.l x0) 0
  (.pex (.l x1) 1
  (.gen ⟨(.slot q70),.box (.k (.agg [(.int .i64 0),(.int .i64 0),.snil])),none⟩
  (.st 3 (.t q70) (.l x1)
  .fin)))))))))
 (.seq (.reg (.sm q1 (.k .snil)
  .fin))
 (.seq (.seq (.reg (.pfa 0 (.t q70)
  (.gen ⟨(.slot q01),.load false 1 (.l x0),none⟩
  (.sm q (.k (.int .i64 0))
  .fin))))
 (.block 0 (.loop (.seq (.regc (.pb .lss (.t q) (.t q01)
  .fin) (.l x0) .skip (.exit 0))
 (.seq (.block 1 (.seq (.reg (.sm q2 (.t q)
  .fin))
 (.seq (.regd [(⟨(.slot q5),.load true 4 (.t q40),none⟩,⟨1,0,1⟩),
  (⟨(.slot q6),.load true 3 (.t q70),none⟩,⟨1,0,0⟩),
  (⟨(.slot q7),.move (.t q2),none⟩,⟨0,0,0⟩),
  (⟨(.slot q00),.call q353 [(.t q6),(.t q7)],none⟩,⟨3,0,1⟩),
  (⟨(.slot q10),.call q253 [(.t q5),(.t q00)],none⟩,⟨3,1,2⟩),
  (⟨(.slot q0),.move (.t q10),none⟩,⟨0,2,2⟩),
  (⟨(.slot q20),.extract (.t q0) 0,none⟩,⟨0,2,2⟩),
  (⟨(.slot q30),.extract (.t q0) 1,none⟩,⟨0,2,2⟩),
  (⟨(.slot q3),.move (.t q20),none⟩,⟨0,2,2⟩),
  (⟨(.slot q4),.move (.t q30),none⟩,⟨0,2,2⟩)])
 (.seq (.regc (.pca q453 [(.t q4)]
  (.gen ⟨.push,.un .not (.l x0),none⟩
  .fin)) (.l x0) (.seq (.reg (.gen ⟨.push,.build [(.int .i64 0),(.int .i64 0),.snil] [],none⟩
  (.st 3 (.t q50) (.l x0)
  (.sm q60 (.k (.int .i64 13))
  .fin))))
 .ret) .skip)
 (.reg (.gen ⟨.push,.bsl 1 1 [.snil] [(0,(.t q3))],none⟩
  (.gen ⟨.push,.append 1 24 (.t q1) (.l x0),none⟩
  (.sm q1 (.l x0)
  .fin))))))))
 (.reg (.pb .add (.t q) (.k (.int .i64 1))
  (.sm q (.l x0)
  .fin))))))))
 (.seq (.reg (.pfa 1 (.t q40)
  (.pfa 0 (.l x0)
  (.pld false 1 (.l x0)
  (.pca q161 [(.l x0),(.t q1)]
  (.pex (.l x0) 0
  (.pex (.l x1) 1
  (.st 3 (.t q50) (.l x1)
  (.sm q60 (.l x0)
  .fin)))))))))
 .ret)))))),[(q50,some (true,3)),(q60,none)],[]⟩
def c158 : CFn := ⟨[some q40],(.seq (.reg (.gen ⟨(.slot q0),.box (.t q40),none⟩
  (.gen ⟨(.slot q1),.box (.k (.agg [(.int .i64 0),(.int .i64 0),.snil])),none⟩
  (.sm q (.k .snil)
  (.sm q2 (.k (.int .i64 0))
  .fin)))))
 (.seq (.regc (.pld true 3 (.t q0)
  (.pca q272 [(.l x0)]
  (.gen ⟨.push,.un .not (.l x0),none⟩
  .fin))) (.l x0) (.seq (.reg (.gen ⟨.push,.build [(.int .i64 0),(.int .i64 0),.snil] [],none⟩
  (.st 3 (.t q1) (.l x0)
  (.sm q (.k .snil)
  (.sm q2 (.k (.int .i64 4))
  .fin)))))
 .ret) .skip)
 (.seq (.reg (.pld true 3 (.t q0)
  (.pca q362 [(.l x0)]
  (.sm q3 (.l x0)
  .fin))))
 (.seq (.reg (.pfa 1 (.t q0)
  (.pld false 1 (.l x0)
  (.pca q553 [(.t q3),(.l x0)]
  (.pex (.l x0) 0
  (.pex (.l x1) 1
  (.sm q (.l x1)
  .fin)))))))
 (.seq (.regd [(⟨(.slot q4),.faddr 1 (.t q0),none⟩,⟨0,0,0⟩),
  (⟨(.slot q5),.load false 1 (.t q4),none⟩,⟨1,0,0⟩),
  (⟨(.slot q6),.move (.t q3),none⟩,⟨0,0,0⟩),
  (⟨(.slot q7),.move (.t q),none⟩,⟨0,0,0⟩),
  (⟨(.slot q00),.len (.t q7),none⟩,⟨0,0,0⟩),
  (⟨(.slot q10),.slc 1 (.t q6) none (some (.t q00)),none⟩,⟨0,0,0⟩),
  (⟨(.slot q20),.call q262 [(.t q5),(.t q10)],none⟩,⟨3,0,1⟩),
  (⟨(.slot q30),.move (.t q),none⟩,⟨0,0,2⟩),
  (⟨.drop,.store 3 (.t q1) (.t q20),none⟩,⟨3,1,2⟩),
  (⟨(.slot q),.move (.t q30),none⟩,⟨0,2,2⟩),
  (⟨(.slot q2),.move (.k (.int .i64 0)),none⟩,⟨0,2,2⟩)])
 .ret))))),[(q1,some (true,3)),(q,none),(q2,none)],[]⟩
def c159 : CFn := ⟨[some q1],(.seq (.reg (.gen ⟨(.slot q),.box (.k (.agg [(.int .i64 0),(.int .i64 0),.snil])),none⟩
  (.sm q0 (.k (.int .i64 0))
  .fin)))
 (.seq (.regc (.pca q162 [(.t q1)]
  (.gen ⟨.push,.un .not (.l x0),none⟩
  .fin)) (.l x0) (.seq (.reg (.gen ⟨.push,.build [(.int .i64 0),(.int .i64 0),.snil] [],none⟩
  (.st 3 (.t q) (.l x0)
  (.sm q0 (.k (.int .i64 4))
  .fin))))
 .ret) .skip)
 (.seq (.reg (.pca q653 [(.t q1)]
  (.pca q262 [(.t q1),(.l x0)]
  (.st 3 (.t q) (.l x0)
  (.sm q0 (.k (.int .i64 0))
  .fin)))))
 .ret))),[(q,some (true,3)),(q0,none)],[]⟩
def c161 : CFn := ⟨[some q10],(.seq (.reg (.gen ⟨(.slot q),.box (.t q10),none⟩
  (.gen ⟨(.slot q0),.box (.k (.agg [(.bool false),.snil])),none⟩
  .fin)))
 (.seq (.regd [(⟨(.slot q1),.faddr 0 (.t q),none⟩,⟨0,0,2⟩),
  (⟨(.slot q2),.load false 1 (.t q1),none⟩,⟨1,0,2⟩),
  (⟨(.slot q3),.un .not (.t q2),none⟩,⟨0,0,2⟩),
  (⟨(.slot q4),.faddr 1 (.t q),none⟩,⟨0,0,0⟩),
  (⟨(.slot q5),.load false 1 (.t q4),none⟩,⟨1,0,0⟩),
  (⟨(.slot q6),.call q231 [(.t q5)],none⟩,⟨3,0,1⟩),
  (⟨(.slot q7),.call q131 [(.t q6)],none⟩,⟨3,1,2⟩),
  (⟨(.slot q00),.call q031 [(.t q3),(.t q7)],none⟩,⟨3,2,3⟩),
  (⟨.drop,.store 2 (.t q0) (.t q00),none⟩,⟨3,3,4⟩)])
 .ret)),[(q0,some (true,2))],[]⟩
def c162 : CFn := ⟨[some q20,some q30],(.seq (.reg (.gen ⟨(.slot q0),.box (.t q20),none⟩
  (.gen ⟨(.slot q1),.box (.t q30),none⟩
  (.gen ⟨(.slot q),.box (.k (.agg [(.bool false),.snil])),none⟩
  .fin))))
 (.seq (.regd [(⟨(.slot q2),.faddr 1 (.t q0),none⟩,⟨0,0,0⟩),
  (⟨(.slot q3),.load false 1 (.t q2),none⟩,⟨1,0,0⟩),
  (⟨(.slot q4),.call q231 [(.t q3)],none⟩,⟨3,0,1⟩),
  (⟨(.slot q5),.faddr 1 (.t q1),none⟩,⟨0,0,1⟩),
  (⟨(.slot q6),.load false 1 (.t q5),none⟩,⟨1,0,1⟩),
  (⟨(.slot q7),.call q231 [(.t q6)],none⟩,⟨3,1,2⟩),
  (⟨(.slot q00),.call q753 [(.t q4),(.t q7)],none⟩,⟨3,2,3⟩),
  (⟨(.slot q10),.call q031 [(.k (.bool false)),(.t q00)],none⟩,⟨3,3,4⟩),
  (⟨.drop,.store 2 (.t q) (.t q10),none⟩,⟨3,4,5⟩)])
 .ret)),[(q,some (true,2))],[]⟩
def c163 : CFn := ⟨[some q6,some q7],(.seq (.reg (.gen ⟨(.slot q4),.box (.t q6),none⟩
  (.gen ⟨(.slot q5),.box (.t q7),none⟩
  (.gen ⟨(.slot q),.box (.k (.agg [(.bool false),.snil])),none⟩
  (.sm q0 (.k (.int .i64 0))
  .fin)))))
 (.seq (.reg (.pld true 2 (.t q4)
  (.pld true 2 (.t q5)
  (.pca q063 [(.l x1),(.l x0)]
  (.pex (.l x0) 0
  (.pex (.l x1) 1
  (.pex (.l x2) 2
  (.gen ⟨(.slot q1),.box (.k (.agg [(.bool false),.snil])),none⟩
  (.gen ⟨(.slot q2),.box (.k (.agg [(.bool false),.snil])),none⟩
  (.st 2 (.t q1) (.l x2)
  (.st 2 (.t q2) (.l x1)
  (.sm q3 (.l x0)
  .fin))))))))))))
 (.seq (.regc (.pb .neq (.t q3) (.k (.int .i64 0))
  .fin) (.l x0) (.seq (.reg (.gen ⟨.push,.build [(.bool false),.snil] [],none⟩
  (.st 2 (.t q) (.l x0)
  (.sm q0 (.t q3)
  .fin))))
 .ret) .skip)
 (.seq (.regc (.pfa 1 (.t q2)
  (.pld false 1 (.l x0)
  (.pln (.l x0)
  (.pb .gtr (.l x0) (.k (.int .i64 0))
  .fin)))) (.l x0) (.seq (.reg (.gen ⟨.push,.build [(.bool false),.snil] [],none⟩
  (.st 2 (.t q) (.l x0)
  (.sm q0 (.k (.int .i64 6))
  .fin))))
 .ret) .skip)
 (.seq (.reg (.pld true 2 (.t q1)
  (.st 2 (.t q) (.l x0)
  (.sm q0 (.k (.int .i64 0))
  .fin))))
 .ret))))),[(q,some (true,2)),(q0,none)],[]⟩
def c164 : CFn := ⟨[some q50,some q20],(.seq (.reg (.sm q60 (.k .snil)
  .fin))
 (.seq (.regc (.pln (.t q50)
  (.pb .eql (.l x0) (.k (.int .i64 0))
  (.gen ⟨.push,.move (.t q20),some ((.l x0),false)⟩
  (.gen ⟨.push,.len (.l x0),some ((.l x1),false)⟩
  (.gen ⟨.push,.bin .eql (.l x0) (.k (.int .i64 0)),some ((.l x2),false)⟩
  (.gen ⟨.push,.pick (.l x3) (.k (.bool true)) (.l x0),none⟩
  .fin)))))) (.l x0) (.seq (.reg (.sm q60 (.k .snil)
  .fin))
 .ret) .skip)
 (.seq (.regc (.pln (.t q50)
  (.pb .eql (.l x0) (.k (.int .i64 1))
  (.gen ⟨.push,.move (.t q20),some ((.l x0),true)⟩
  (.gen ⟨.push,.len (.l x0),some ((.l x1),true)⟩
  (.gen ⟨.push,.bin .eql (.l x0) (.k (.int .i64 1)),some ((.l x2),true)⟩
  (.gen ⟨.push,.pick (.l x3) (.l x0) (.k (.bool false)),none⟩
  .fin)))))) (.l x0) (.seq (.regd [(⟨(.slot q70),.move (.t q50),none⟩,⟨0,0,0⟩),
  (⟨(.slot q01),.iaddr 1 (.t q70) (.k (.int .i64 0)),none⟩,⟨0,0,0⟩),
  (⟨(.slot q11),.load false 1 (.t q01),none⟩,⟨1,0,0⟩),
  (⟨(.slot q21),.conv .u64 (.t q11),none⟩,⟨0,0,0⟩),
  (⟨(.slot q31),.move (.t q20),none⟩,⟨0,0,0⟩),
  (⟨(.slot q41),.iaddr 1 (.t q31) (.k (.int .i64 0)),none⟩,⟨0,0,0⟩),
  (⟨(.slot q51),.load false 1 (.t q41),none⟩,⟨1,0,0⟩),
  (⟨(.slot q61),.conv .u64 (.t q51),none⟩,⟨0,0,0⟩),
  (⟨(.slot q71),.bin .mul (.t q21) (.t q61),none⟩,⟨0,0,0⟩),
  (⟨(.slot q02),.call q122 [(.t q71)],none⟩,⟨3,0,1⟩),
  (⟨(.slot q60),.move (.t q02),none⟩,⟨0,1,1⟩)])
 .ret) .skip)
 (.seq (.reg (.pln (.t q50)
  (.pln (.t q20)
  (.pb .add (.l x1) (.l x0)
  (.gen ⟨.push,.mksl 1 4 [(.int .u32 0)] (.l x0) (.l x0),none⟩
  (.sm q4 (.l x0)
  .fin))))))
 (.seq (.seq (.reg (.sm q30 (.t q50)
  (.gen ⟨(.slot q40),.len (.t q30),none⟩
  (.sm q10 (.k (.int .i64 0))
  .fin))))
 (.block 0 (.loop (.seq (.regc (.pb .lss (.t q10) (.t q40)
  .fin) (.l x0) .skip (.exit 0))
 (.seq (.block 1 (.seq (.reg (.pia 1 (.t q30) (.t q10)
  (.pld false 1 (.l x0)
  (.sm q2 (.t q10)
  (.sm q7 (.l x0)
  .fin)))))
 (.seq (.reg (.sm q3 (.k (.int .u64 0))
  .fin))
 (.seq (.seq (.reg (.sm q6 (.t q20)
  (.gen ⟨(.slot q00),.len (.t q6),none⟩
  (.sm q (.k (.int .i64 0))
  .fin))))
 (.block 2 (.loop (.seq (.regc (.pb .lss (.t q) (.t q00)
  .fin) (.l x0) .skip (.exit 2))
 (.seq (.block 3 (.seq (.reg (.pia 1 (.t q6) (.t q)
  (.pld false 1 (.l x0)
  (.sm q0 (.t q)
  (.sm q5 (.l x0)
  .fin)))))
 (.seq (.reg (.pcv .u64 (.t q7)
  (.pcv .u64 (.t q5)
  (.pb .mul (.l x1) (.l x0)
  (.pb .add (.t q2) (.t q0)
  (.pia 1 (.t q4) (.l x0)
  (.pld false 1 (.l x0)
  (.pcv .u64 (.l x0)
  (.pb .add (.l x4) (.l x0)
  (.pb .add (.l x0) (.t q3)
  (.sm q1 (.l x0)
  .fin)))))))))))
 (.reg (.pb .add (.t q2) (.t q0)
  (.pcv .u32 (.t q1)
  (.pb .shr (.t q1) (.k (.int .u64 32))
  (.pia 1 (.t q4) (.l x2)
  (.st 1 (.l x0) (.l x2)
  (.sm q3 (.l x1)
  .fin))))))))))
 (.reg (.pb .add (.t q) (.k (.int .i64 1))
  (.sm q (.l x0)
  .fin))))))))
 (.reg (.pln (.t q20)
  (.pb .add (.t q2) (.l x0)
  (.pcv .u32 (.t q3)
  (.pia 1 (.t q4) (.l x1)
  (.st 1 (.l x0) (.l x1)
  .fin))))))))))
 (.reg (.pb .add (.t q10) (.k (.int .i64 1))
  (.sm q10 (.l x0)
  .fin))))))))
 (.seq (.reg (.sm q60 (.t q4)
  .fin))
 .ret)))))),[(q60,none)],[]⟩
def c165 : CFn := ⟨[some q7],(.seq (.reg (.gen ⟨(.slot q4),.box (.t q7),none⟩
  (.sm q (.k .snil)
  (.sm q0 (.k (.int .i64 0))
  .fin))))
 (.seq (.reg (.gen ⟨.push,.build [(.int .i64 0),(.int .i64 0)] [(0,1,(.k (.int .i64 1))),(1,1,(.k (.int .i64 0)))],none⟩
  (.gen ⟨.push,.bsl 2 1 [(.int .i64 0),(.int .i64 0)] [(0,(.l x0))],none⟩
  (.sm q1 (.l x0)
  .fin))))
 (.seq (.reg (.pld true 2 (.t q4)
  (.pca q163 [(.l x0)]
  (.pex (.l x0) 0
  (.pex (.l x1) 1
  (.sm q5 (.l x1)
  (.sm q2 (.l x0)
  .fin)))))))
 (.seq (.seq (.reg (.sm q3 (.t q2)
  .fin))
 (.block 0 (.regc (.pb .eql (.t q3) (.k (.int .i64 5))
  .fin) (.l x0) (.seq (.reg (.sm q (.t q1)
  (.sm q0 (.k (.int .i64 0))
  .fin)))
 .ret) (.regc (.pb .eql (.t q3) (.k (.int .i64 0))
  .fin) (.l x0) (.seq (.reg (.pca q263 [(.t q5)]
  (.pex (.l x0) 0
  (.pex (.l x1) 1
  (.sm q6 (.l x1)
  .fin)))))
 (.seq (.reg (.gen ⟨.push,.append 2 16 (.t q1) (.t q6),none⟩
  (.sm q (.l x0)
  (.sm q0 (.k (.int .i64 0))
  .fin))))
 .ret)) .skip))))
 (.seq (.reg (.gen ⟨.push,.move (.t q2),none⟩
  (.sm q (.k .snil)
  (.sm q0 (.l x0)
  .fin))))
 .ret))))),[(q,none),(q0,none)],[]⟩
def c166 : CFn := ⟨[some q1],(.seq (.reg (.pln (.t q1)
  (.pb .sub (.l x0) (.k (.int .i64 1))
  (.sm q (.k (.int .i64 0))
  (.sm q0 (.l x0)
  .fin)))))
 (.block 0 (.loop (.seq (.regc (.pb .lss (.t q) (.t q0)
  .fin) (.l x0) .skip (.exit 0))
 (.seq (.block 1 (.regd [(⟨(.slot q2),.move (.t q1),none⟩,⟨0,0,0⟩),
  (⟨(.slot q3),.move (.t q),none⟩,⟨0,0,0⟩),
  (⟨(.slot q4),.move (.t q1),none⟩,⟨0,0,1⟩),
  (⟨(.slot q5),.move (.t q0),none⟩,⟨0,0,1⟩),
  (⟨(.slot q6),.move (.t q1),none⟩,⟨0,0,0⟩),
  (⟨(.slot q7),.move (.t q0),none⟩,⟨0,0,0⟩),
  (⟨(.slot q00),.iaddr 2 (.t q6) (.t q7),none⟩,⟨0,0,0⟩),
  (⟨(.slot q10),.load true 2 (.t q00),none⟩,⟨1,0,0⟩),
  (⟨(.slot q20),.move (.t q1),none⟩,⟨0,0,0⟩),
  (⟨(.slot q30),.move (.t q),none⟩,⟨0,0,0⟩),
  (⟨(.slot q40),.iaddr 2 (.t q20) (.t q30),none⟩,⟨0,0,0⟩),
  (⟨(.slot q50),.load true 2 (.t q40),none⟩,⟨1,0,0⟩),
  (⟨(.slot q60),.iaddr 2 (.t q2) (.t q3),none⟩,⟨0,0,0⟩),
  (⟨.drop,.store 2 (.t q60) (.t q10),none⟩,⟨3,0,1⟩),
  (⟨(.slot q70),.iaddr 2 (.t q4) (.t q5),none⟩,⟨0,1,1⟩),
  (⟨.drop,.store 2 (.t q70) (.t q50),none⟩,⟨3,1,2⟩)]))
 (.reg (.pb .add (.t q) (.k (.int .i64 1))
  (.pb .sub (.t q0) (.k (.int .i64 1))
  (.sm q (.l x1)
  (.sm q0 (.l x0)
  .fin)))))))))),[],[]⟩
def c167 : CFn := ⟨[some q5,some q6],(.seq (.reg (.gen ⟨(.slot q2),.box (.t q5),none⟩
  (.gen ⟨(.slot q3),.box (.t q6),none⟩
  (.gen ⟨(.slot q0),.box (.k (.agg [(.int .i64 0),(.int .i64 0),(.int .i64 0),(.int .i64 0)])),none⟩
  (.sm q1 (.k (.bool false))
  .fin)))))
 (.seq (.reg (.pfa 0 (.t q3)
  (.pld false 1 (.l x0)
  (.pfa 0 (.t q2)
  (.pld false 1 (.l x0)
  (.pfa 1 (.t q3)
  (.pld false 1 (.l x0)
  (.pfa 1 (.t q2)
  (.pld false 1 (.l x0)
  (.gen ⟨.push,.build [(.int .i64 0),(.int .i64 0),(.int .i64 0),(.int .i64 0)] [(0,1,(.l x6)),(1,1,(.l x4)),(2,1,(.l x2)),(3,1,(.l x0))],none⟩
  (.gen ⟨(.slot q),.box (.k (.agg [(.int .i64 0),(.int .i64 0),(.int .i64 0),(.int .i64 0)])),none⟩
  (.st 4 (.t q) (.l x0)
  .fin))))))))))))
 (.seq (.seq (.reg (.pfa 0 (.t q)
  (.pld false 1 (.l x0)
  (.pfa 3 (.t q)
  (.pld false 1 (.l x0)
  (.pb .mul (.l x2) (.l x0)
  (.pfa 1 (.t q)
  (.pld false 1 (.l x0)
  (.pfa 2 (.t q)
  (.pld false 1 (.l x0)
  (.pb .mul (.l x2) (.l x0)
  (.gen ⟨(.slot q4),.bin .sub (.l x5) (.l x0),none⟩
  .fin))))))))))))
 (.block 0 (.regc (.pb .eql (.t q4) (.k (.int .i64 1))
  .fin) (.l x0) (.seq (.reg (.pld true 4 (.t q)
  (.st 4 (.t q0) (.l x0)
  (.sm q1 (.k (.bool true))
  .fin))))
 .ret) (.regc (.pb .eql (.t q4) (.k (.int .i64 (-1)))
  .fin) (.l x0) (.seq (.reg (.pfa 1 (.t q)
  (.pld false 1 (.l x0)
  (.gen ⟨.push,.un .neg (.l x0),none⟩
  (.pfa 3 (.t q)
  (.pld false 1 (.l x0)
  (.gen ⟨.push,.un .neg (.l x0),none⟩
  (.pfa 1 (.t q)
  (.st 1 (.l x0) (.l x4)
  (.pfa 3 (.t q)
  (.st 1 (.l x0) (.l x2)
  .fin)))))))))))
 (.seq (.reg (.pld true 4 (.t q)
  (.st 4 (.t q0) (.l x0)
  (.sm q1 (.k (.bool true))
  .fin))))
 .ret)) .skip))))
 (.seq (.reg (.pld true 4 (.t q)
  (.st 4 (.t q0) (.l x0)
  (.sm q1 (.k (.bool false))
  .fin))))
 .ret)))),[(q0,some (true,4)),(q1,none)],[]⟩
def c168 : CFn := ⟨[some q42,some q52],(.seq (.reg (.gen ⟨(.slot q2),.box (.t q52),none⟩
  (.sm q32 (.k .snil)
  .fin)))
 (.seq (.reg (.pln (.t q42)
  (.pb .sub (.l x0) (.k (.int .i64 1))
  (.sm q31 (.l x0)
  .fin))))
 (.seq (.reg (.pb .add (.t q31) (.k (.int .i64 1))
  (.gen ⟨.push,.mksl 4 64 [(.bool false),.snil,(.bool false),.snil] (.l x0) (.l x0),none⟩
  (.sm q4 (.l x0)
  .fin))))
 (.seq (.seq (.reg (.gen ⟨(.slot q12),.len (.t q4),none⟩
  (.sm q51 (.k (.int .i64 0))
  .fin)))
 (.block 0 (.loop (.seq (.regc (.pb .lss (.t q51) (.t q12)
  .fin) (.l x0) .skip (.exit 0))
 (.seq (.block 1 (.seq (.reg (.sm q71 (.t q51)
  .fin))
 (.reg (.pca q24 [(.k (.int .i64 0))]
  (.pia 4 (.t q4) (.t q71)
  (.st 4 (.l x0) (.l x1)
  .fin))))))
 (.reg (.pb .add (.t q51) (.k (.int .i64 1))
  (.sm q51 (.l x0)
  .fin))))))))
 (.seq (.seq (.reg (.sm q02 (.t q42)
  (.gen ⟨(.slot q22),.len (.t q02),none⟩
  (.sm q41 (.k (.int .i64 0))
  .fin))))
 (.block 2 (.loop (.seq (.regc (.pb .lss (.t q41) (.t q22)
  .fin) (.l x0) .skip (.exit 2))
 (.seq (.block 3 (.seq (.reg (.gen ⟨.push,.move (.t q41),none⟩
  (.pia 4 (.t q02) (.t q41)
  (.pld true 4 (.l x0)
  (.gen ⟨(.slot q61),.box (.k (.agg [(.bool false),.snil,(.bool false),.snil])),none⟩
  (.sm q11 (.l x2)
  (.st 4 (.t q61) (.l x0)
  .fin)))))))
 (.seq (.regc (.pld true 4 (.t q61)
  (.pca q15 [(.l x0)]
  (.pb .eql (.l x0) (.k (.int .i64 0))
  .fin))) (.l x0) (.exit 3) .skip)
 (.seq (.reg (.pld true 4 (.t q61)
  (.pca q77 [(.l x0)]
  (.gen ⟨.push,.bsl 4 1 [(.bool false),.snil,(.bool false),.snil] [(0,(.l x0))],none⟩
  (.sm q (.l x0)
  .fin)))))
 (.seq (.seq (.reg (.sm q0 (.k (.int .i64 0))
  .fin))
 (.block 4 (.loop (.seq (.regc (.pb .lss (.t q0) (.t q31)
  .fin) (.l x0) .skip (.exit 4))
 (.seq (.block 5 (.regc (.pb .lss (.t q0) (.t q11)
  .fin) (.l x0) (.reg (.pfa 0 (.t q2)
  (.pld false 1 (.l x0)
  (.pfa 1 (.t q2)
  (.pld false 1 (.l x0)
  (.pca q363 [(.t q),(.l x2),(.l x0)]
  (.sm q (.l x0)
  .fin))))))) (.reg (.pfa 2 (.t q2)
  (.pld false 1 (.l x0)
  (.pfa 3 (.t q2)
  (.pld false 1 (.l x0)
  (.pca q363 [(.t q),(.l x2),(.l x0)]
  (.sm q (.l x0)
  .fin)))))))))
 (.reg (.pb .add (.t q0) (.k (.int .i64 1))
  (.sm q0 (.l x0)
  .fin))))))))
 (.seq (.reg (.gen ⟨(.slot q21),.len (.t q4),none⟩
  (.sm q1 (.k (.int .i64 0))
  .fin)))
 (.block 6 (.loop (.seq (.regc (.pb .lss (.t q1) (.t q21)
  .fin) (.l x0) .skip (.exit 6))
 (.seq (.block 7 (.seq (.reg (.sm q3 (.t q1)
  .fin))
 (.regd [(⟨(.slot q5),.move (.t q4),none⟩,⟨0,0,1⟩),
  (⟨(.slot q6),.move (.t q3),none⟩,⟨0,0,1⟩),
  (⟨(.slot q7),.move (.t q4),none⟩,⟨0,0,0⟩),
  (⟨(.slot q00),.move (.t q3),none⟩,⟨0,0,0⟩),
  (⟨(.slot q10),.iaddr 4 (.t q7) (.t q00),none⟩,⟨0,0,0⟩),
  (⟨(.slot q20),.load true 4 (.t q10),none⟩,⟨1,0,0⟩),
  (⟨(.slot q30),.move (.t q),none⟩,⟨0,0,0⟩),
  (⟨(.slot q40),.move (.t q3),none⟩,⟨0,0,0⟩),
  (⟨(.slot q50),.iaddr 4 (.t q30) (.t q40),none⟩,⟨0,0,0⟩),
  (⟨(.slot q60),.load true 4 (.t q50),none⟩,⟨1,0,0⟩),
  (⟨(.slot q70),.call q26 [(.t q20),(.t q60)],none⟩,⟨3,0,1⟩),
  (⟨(.slot q01),.iaddr 4 (.t q5) (.t q6),none⟩,⟨0,1,1⟩),
  (⟨.drop,.store 4 (.t q01) (.t q70),none⟩,⟨3,1,2⟩)])))
 (.reg (.pb .add (.t q1) (.k (.int .i64 1))
  (.sm q1 (.l x0)
  .fin)))))))))))))
 (.reg (.pb .add (.t q41) (.k (.int .i64 1))
  (.sm q41 (.l x0)
  .fin))))))))
 (.seq (.reg (.sm q32 (.t q4)
  .fin))
 .ret)))))),[(q32,none)],[]⟩
def c169 : CFn := ⟨[some q72,some q03],(.seq (.reg (.gen ⟨(.slot q6),.box (.t q72),none⟩
  (.gen ⟨(.slot q1),.box (.t q03),none⟩
  (.sm q2 (.k (.int .i64 0))
  (.sm q3 (.k (.int .i64 0))
  (.sm q (.k (.int .i64 0))
  .fin))))))
 (.seq (.reg (.pld true 3 (.t q6)
  (.pca q352 [(.l x0)]
  (.pex (.l x0) 0
  (.pex (.l x1) 1
  (.sm q5 (.l x1)
  (.sm q (.l x0)
  .fin)))))))
 (.seq (.regc (.pb .neq (.t q) (.k (.int .i64 0))
  .fin) (.l x0) (.seq (.reg (.gen ⟨.push,.move (.t q),none⟩
  (.sm q2 (.k (.int .i64 0))
  (.sm q3 (.k (.int .i64 0))
  (.sm q (.l x0)
  .fin)))))
 .ret) .skip)
 (.seq (.seq (.regd [(⟨(.slot q7),.faddr 0 (.t q1),none⟩,⟨0,0,0⟩),
  (⟨(.slot q00),.load false 1 (.t q7),none⟩,⟨1,0,0⟩),
  (⟨(.slot q10),.bin .lss (.t q00) (.k (.int .i64 0)),none⟩,⟨0,0,0⟩),
  (⟨(.slot q0),.move (.t q10),none⟩,⟨0,0,0⟩),
  (⟨(.slot q20),.faddr 0 (.t q1),some ((.t q0),false)⟩,⟨0,0,0⟩),
  (⟨(.slot q30),.load false 1 (.t q20),some ((.t q0),false)⟩,⟨1,0,0⟩),
  (⟨(.slot q40),.move (.t q5),some ((.t q0),false)⟩,⟨0,0,0⟩),
  (⟨(.slot q50),.nilc (.t q40),some ((.t q0),false)⟩,⟨0,0,0⟩),
  (⟨(.slot q60),.faddr 1 (.t q50),some ((.t q0),false)⟩,⟨0,0,0⟩),
  (⟨(.slot q70),.load false 1 (.t q60),some ((.t q0),false)⟩,⟨1,0,0⟩),
  (⟨(.slot q01),.bin .gtr (.t q30) (.t q70),some ((.t q0),false)⟩,⟨0,0,0⟩),
  (⟨(.slot q11),.pick (.t q0) (.k (.bool true)) (.t q01),none⟩,⟨0,0,0⟩)])
 (.cond (.t q11) (.seq (.reg (.sm q2 (.k (.int .i64 0))
  (.sm q3 (.k (.int .i64 0))
  (.sm q (.k (.int .i64 2))
  .fin))))
 .ret) .skip))
 (.seq (.reg (.pfa 1 (.t q1)
  (.pld false 1 (.l x0)
  (.pfa 2 (.t q1)
  (.pld false 1 (.l x0)
  (.pca q752 [(.t q5),(.l x2),(.l x0)]
  (.gen ⟨(.slot q4),.box (.k (.agg [(.int .i64 0),(.int .i64 0)])),none⟩
  (.st 2 (.t q4) (.l x0)
  .fin))))))))
 (.seq (.regc (.pfa 1 (.t q4)
  (.pld false 1 (.l x0)
  (.pb .eql (.l x0) (.k (.int .i64 0))
  .fin))) (.l x0) (.seq (.reg (.sm q2 (.k (.int .i64 0))
  (.sm q3 (.k (.int .i64 0))
  (.sm q (.k (.int .i64 12))
  .fin))))
 .ret) .skip)
 (.seq (.regd [(⟨(.slot q21),.faddr 0 (.t q1),none⟩,⟨0,0,0⟩),
  (⟨(.slot q31),.load false 1 (.t q21),none⟩,⟨1,0,0⟩),
  (⟨(.slot q41),.move (.t q5),none⟩,⟨0,0,0⟩),
  (⟨(.slot q51),.nilc (.t q41),none⟩,⟨0,0,0⟩),
  (⟨(.slot q61),.faddr 2 (.t q51),none⟩,⟨0,0,0⟩),
  (⟨(.slot q71),.load false 1 (.t q61),none⟩,⟨1,0,0⟩),
  (⟨(.slot q02),.len (.t q71),none⟩,⟨0,0,0⟩),
  (⟨(.slot q12),.bin .mul (.t q31) (.t q02),none⟩,⟨0,0,0⟩),
  (⟨(.slot q22),.faddr 0 (.t q4),none⟩,⟨0,0,0⟩),
  (⟨(.slot q32),.load false 1 (.t q22),none⟩,⟨1,0,0⟩),
  (⟨(.slot q42),.bin .add (.t q12) (.t q32),none⟩,⟨0,0,0⟩),
  (⟨(.slot q52),.faddr 1 (.t q4),none⟩,⟨0,0,0⟩),
  (⟨(.slot q62),.load false 1 (.t q52),none⟩,⟨1,0,0⟩),
  (⟨(.slot q2),.move (.t q42),none⟩,⟨0,0,0⟩),
  (⟨(.slot q3),.move (.t q62),none⟩,⟨0,0,0⟩),
  (⟨(.slot q),.move (.k (.int .i64 0)),none⟩,⟨0,0,0⟩)])
 .ret))))))),[(q2,none),(q3,none),(q,none)],[]⟩
def c170 : CFn := ⟨[some q20,some q3,some q1],(.seq (.reg (.gen ⟨(.slot q2),.box (.t q20),none⟩
  (.gen ⟨(.slot q),.box (.k (.agg [(.bool false),.snil])),none⟩
  .fin)))
 (.seq (.reg (.pfa 1 (.t q2)
  (.pld false 1 (.l x0)
  (.pca q231 [(.l x0)]
  (.sm q0 (.l x0)
  .fin)))))
 (.seq (.regc (.pfa 0 (.t q2)
  (.pld false 1 (.l x0)
  (.gen ⟨.push,.cmp 0 .eql (.l x0) (.t q3),none⟩
  .fin))) (.l x0) (.seq (.reg (.pca q463 [(.t q0),(.t q1)]
  (.pca q031 [(.t q3),(.l x0)]
  (.st 2 (.t q) (.l x0)
  .fin))))
 .ret) .skip)
 (.seq (.regc (.pca q563 [(.t q0),(.t q1)]
  (.pb .geq (.l x0) (.k (.int .i64 0))
  .fin)) (.l x0) (.seq (.regd [(⟨(.slot q4),.faddr 0 (.t q2),none⟩,⟨0,0,1⟩),
  (⟨(.slot q5),.load false 1 (.t q4),none⟩,⟨1,0,1⟩),
  (⟨(.slot q6),.move (.t q0),none⟩,⟨0,0,0⟩),
  (⟨(.slot q7),.move (.t q1),none⟩,⟨0,0,0⟩),
  (⟨(.slot q00),.call q663 [(.t q6),(.t q7)],none⟩,⟨3,0,1⟩),
  (⟨(.slot q10),.call q031 [(.t q5),(.t q00)],none⟩,⟨3,1,2⟩),
  (⟨.drop,.store 2 (.t q) (.t q10),none⟩,⟨3,2,3⟩)])
 .ret) .skip)
 (.seq (.reg (.pca q663 [(.t q1),(.t q0)]
  (.pca q031 [(.t q3),(.l x0)]
  (.st 2 (.t q) (.l x0)
  .fin))))
 .ret))))),[(q,some (true,2))],[]⟩
def c171 : CFn := ⟨[some q05],(.seq (.reg (.gen ⟨(.slot q72),.box (.t q05),none⟩
  (.sm q13 (.k .pnil)
  (.sm q23 (.k (.int .i64 0))
  .fin))))
 (.seq (.seq (.reg (.pld true 3 (.t q72)
  (.pca q462 [(.l x0)]
  (.sm q33 (.l x0)
  .fin))))
 (.regc (.pb .neq (.t q33) (.k (.int .i64 0))
  .fin) (.l x0) (.seq (.reg (.gen ⟨.push,.move (.t q33),none⟩
  (.sm q13 (.k .pnil)
  (.sm q23 (.l x0)
  .fin))))
 .ret) .skip))
 (.seq (.reg (.pfa 0 (.t q72)
  (.pld false 1 (.l x0)
  (.pca q763 [(.l x0)]
  (.pex (.l x0) 0
  (.pex (.l x1) 1
  (.sm q03 (.l x1)
  (.sm q43 (.l x0)
  .fin))))))))
 (.seq (.regc (.pb .neq (.t q43) (.k (.int .i64 0))
  .fin) (.l x0) (.seq (.reg (.gen ⟨.push,.move (.t q43),none⟩
  (.sm q13 (.k .pnil)
  (.sm q23 (.l x0)
  .fin))))
 .ret) .skip)
 (.seq (.reg (.pfa 0 (.t q72)
  (.pld false 1 (.l x0)
  (.sm q1 (.l x0)
  .fin))))
 (.seq (.regd [(⟨(.slot q63),.move (.t q1),none⟩,⟨0,0,0⟩),
  (⟨(.slot q73),.faddr 1 (.t q72),none⟩,⟨0,0,0⟩),
  (⟨(.slot q04),.load false 1 (.t q73),none⟩,⟨1,0,0⟩),
  (⟨(.slot q14),.bin .sub (.t q04) (.k (.int .i64 2)),none⟩,⟨0,0,0⟩),
  (⟨(.slot q24),.move (.t q03),none⟩,⟨0,0,0⟩),
  (⟨(.slot q34),.move (.t q1),none⟩,⟨0,0,0⟩),
  (⟨(.slot q44),.move (.t q1),none⟩,⟨0,0,0⟩),
  (⟨(.slot q53),.bin .mul (.t q34) (.t q44),none⟩,⟨0,0,0⟩),
  (⟨(.slot q54),.mksl 2 16 [(.int .i64 0),(.int .i64 0)] (.t q53) (.t q53),none⟩,⟨2,0,0⟩),
  (⟨(.slot q64),.build [(.int .i64 0),(.int .i64 0),.snil,.snil] [(0,1,(.t q63)),(1,1,(.t q14)),(2,1,(.t q24)),(3,1,(.t q54))],none⟩,⟨0,0,0⟩),
  (⟨(.slot q74),.box (.t q64),none⟩,⟨2,0,0⟩),
  (⟨(.slot q62),.move (.t q74),none⟩,⟨0,0,0⟩)])
 (.seq (.seq (.reg (.sm q2 (.k (.int .i64 1))
  .fin))
 (.block 0 (.loop (.seq (.regc (.pb .leq (.t q2) (.t q1)
  .fin) (.l x0) .skip (.exit 0))
 (.seq (.block 1 (.seq (.regc (.pca q56 [(.t q2),(.t q1)]
  (.pb .neq (.l x0) (.k (.int .i64 1))
  .fin)) (.l x0) (.exit 1) .skip)
 (.seq (.reg (.pfa 2 (.t q72)
  (.pld false 1 (.l x0)
  (.pca q66 [(.l x0),(.t q2)]
  (.sm q42 (.l x0)
  .fin)))))
 (.seq (.reg (.sm q32 (.t q03)
  (.gen ⟨(.slot q52),.len (.t q32),none⟩
  (.sm q (.k (.int .i64 0))
  .fin))))
 (.block 2 (.loop (.seq (.regc (.pb .lss (.t q) (.t q52)
  .fin) (.l x0) .skip (.exit 2))
 (.seq (.block 3 (.seq (.reg (.gen ⟨.push,.move (.t q),none⟩
  (.pia 3 (.t q32) (.t q)
  (.pld true 3 (.l x0)
  (.gen ⟨(.slot q0),.box (.k (.agg [(.int .i64 0),(.int .i64 0),(.int .i64 0)])),none⟩
  (.sm q3 (.l x2)
  (.st 3 (.t q0) (.l x0)
  .fin)))))))
 (.regd [(⟨(.slot q4),.move (.t q62),none⟩,⟨0,0,0⟩),
  (⟨(.slot q5),.nilc (.t q4),none⟩,⟨0,0,0⟩),
  (⟨(.slot q6),.faddr 3 (.t q5),none⟩,⟨0,0,0⟩),
  (⟨(.slot q7),.load false 1 (.t q6),none⟩,⟨1,0,0⟩),
  (⟨(.slot q00),.move (.t q2),none⟩,⟨0,0,0⟩),
  (⟨(.slot q10),.faddr 0 (.t q0),none⟩,⟨0,0,0⟩),
  (⟨(.slot q20),.load false 1 (.t q10),none⟩,⟨1,0,0⟩),
  (⟨(.slot q30),.bin .mul (.t q00) (.t q20),none⟩,⟨0,0,0⟩),
  (⟨(.slot q40),.move (.t q1),none⟩,⟨0,0,0⟩),
  (⟨(.slot q50),.bin .rem (.t q30) (.t q40),none⟩,⟨0,0,0⟩),
  (⟨(.slot q60),.move (.t q1),none⟩,⟨0,0,0⟩),
  (⟨(.slot q70),.bin .mul (.t q50) (.t q60),none⟩,⟨0,0,0⟩),
  (⟨(.slot q01),.move (.t q2),none⟩,⟨0,0,0⟩),
  (⟨(.slot q11),.faddr 1 (.t q0),none⟩,⟨0,0,0⟩),
  (⟨(.slot q21),.load false 1 (.t q11),none⟩,⟨1,0,0⟩),
  (⟨(.slot q31),.bin .mul (.t q01) (.t q21),none⟩,⟨0,0,0⟩),
  (⟨(.slot q41),.move (.t q1),none⟩,⟨0,0,0⟩),
  (⟨(.slot q51),.bin .rem (.t q31) (.t q41),none⟩,⟨0,0,0⟩),
  (⟨(.slot q61),.bin .add (.t q70) (.t q51),none⟩,⟨0,0,0⟩),
  (⟨(.slot q71),.move (.t q3),none⟩,⟨0,0,0⟩),
  (⟨(.slot q02),.move (.t q42),none⟩,⟨0,0,0⟩),
  (⟨(.slot q12),.build [(.int .i64 0),(.int .i64 0)] [(0,1,(.t q71)),(1,1,(.t q02))],none⟩,⟨0,0,0⟩),
  (⟨(.slot q22),.iaddr 2 (.t q7) (.t q61),none⟩,⟨0,0,0⟩),
  (⟨.drop,.store 2 (.t q22) (.t q12),none⟩,⟨3,0,1⟩)])))
 (.reg (.pb .add (.t q) (.k (.int .i64 1))
  (.sm q (.l x0)
  .fin)))))))))))
 (.reg (.pb .add (.t q2) (.k (.int .i64 1))
  (.sm q2 (.l x0)
  .fin))))))))
 (.seq (.reg (.sm q13 (.t q62)
  (.sm q23 (.k (.int .i64 0))
  .fin)))
 .ret)))))))),[(q13,none),(q23,none)],[]⟩
def c172 : CFn := ⟨[some q0],(.seq (.reg (.sm q (.k (.int .i64 0))
  .fin))
 (.seq (.regd [(⟨(.slot q1),.move (.t q0),none⟩,⟨0,0,0⟩),
  (⟨(.slot q2),.nilc (.t q1),none⟩,⟨0,0,0⟩),
  (⟨(.slot q3),.faddr 1 (.t q2),none⟩,⟨0,0,0⟩),
  (⟨(.slot q4),.load false 1 (.t q3),none⟩,⟨1,0,0⟩),
  (⟨(.slot q5),.bin .add (.t q4) (.k (.int .i64 1)),none⟩,⟨0,0,0⟩),
  (⟨(.slot q6),.move (.t q0),none⟩,⟨0,0,0⟩),
  (⟨(.slot q7),.nilc (.t q6),none⟩,⟨0,0,0⟩),
  (⟨(.slot q00),.faddr 2 (.t q7),none⟩,⟨0,0,0⟩),
  (⟨(.slot q10),.load false 1 (.t q00),none⟩,⟨1,0,0⟩),
  (⟨(.slot q20),.len (.t q10),none⟩,⟨0,0,0⟩),
  (⟨(.slot q30),.bin .mul (.t q5) (.t q20),none⟩,⟨0,0,0⟩),
  (⟨(.slot q),.move (.t q30),none⟩,⟨0,0,0⟩)])
 .ret)),[(q,none)],[]⟩
end Go.Ex.K
