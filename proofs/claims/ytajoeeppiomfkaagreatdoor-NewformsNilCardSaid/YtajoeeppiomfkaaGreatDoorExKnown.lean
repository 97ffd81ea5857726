/- Calls whose results are stated beforehand, and the tables that hold them. Conditions: none. -/
import Derived.Test.YtajoeeppiomfkaaGreatDoorExTabC
set_option maxRecDepth 100000
namespace Go.Ex.K
namespace L1
def k6 : Pth := (.s .d6 .e)
def o : Orc := ⟨[(.int .i64 1)],[],[(k6,.arr 3 [[(.int .i64 0),(.int .i64 0),(.int .i64 1)]])],(.tup [(.sg k6 0 1 3),(.int .i64 0)]),none⟩
end L1
namespace L11
def k46 : Pth := (.s .d6 (.s .d5 .e))
def o : Orc := ⟨[(.int .i64 11)],[],[(k46,.arr 3 [[(.int .i64 0),(.int .i64 1),(.int .i64 1)],[(.int .i64 1),(.int .i64 0),(.int .i64 1)],[(.int .i64 1),(.int .i64 1),(.int .i64 1)],[(.int .i64 1),(.int .i64 2),(.int .i64 1)],[(.int .i64 1),(.int .i64 3),(.int .i64 1)],[(.int .i64 1),(.int .i64 4),(.int .i64 1)],[(.int .i64 1),(.int .i64 5),(.int .i64 1)],[(.int .i64 1),(.int .i64 6),(.int .i64 1)],[(.int .i64 1),(.int .i64 7),(.int .i64 1)],[(.int .i64 1),(.int .i64 8),(.int .i64 1)],[(.int .i64 1),(.int .i64 9),(.int .i64 1)],[(.int .i64 1),(.int .i64 10),(.int .i64 1)]])],(.tup [(.sg k46 0 12 3),(.int .i64 0)]),none⟩
end L11
namespace E1
def k8 : Pth := (.s .d0 (.s .d1 .e))
def k9 : Pth := (.s .d1 (.s .d1 .e))
def k10 : Pth := (.s .d2 (.s .d1 .e))
def o : Orc := ⟨[(.agg [(.int .i64 1),(.int .i64 2),(.int .i64 1)])],[(q,64,1,tabL)],[(k8,.arr 3 [[(.int .i64 0),(.int .i64 0),(.int .i64 1)]]),
 (k9,.arr 2 [[(.int .i64 0),(.int .i64 1)]]),
 (k10,.arr 4 [[(.int .i64 1),(.int .i64 0),(.sg k8 0 1 3),(.sl k9 0 1 1)]])],(.tup [(.ptr k10 0),(.int .i64 0)]),none⟩
end E1
namespace E11
def k8 : Pth := (.s .d0 (.s .d1 .e))
def k9 : Pth := (.s .d1 (.s .d1 .e))
def k10 : Pth := (.s .d2 (.s .d1 .e))
def o : Orc := ⟨[(.agg [(.int .i64 11),(.int .i64 2),(.int .i64 1)])],[(q,64,1,tabL)],[(k8,.arr 3 [[(.int .i64 0),(.int .i64 1),(.int .i64 1)],[(.int .i64 1),(.int .i64 0),(.int .i64 1)],[(.int .i64 1),(.int .i64 1),(.int .i64 1)],[(.int .i64 1),(.int .i64 2),(.int .i64 1)],[(.int .i64 1),(.int .i64 3),(.int .i64 1)],[(.int .i64 1),(.int .i64 4),(.int .i64 1)],[(.int .i64 1),(.int .i64 5),(.int .i64 1)],[(.int .i64 1),(.int .i64 6),(.int .i64 1)],[(.int .i64 1),(.int .i64 7),(.int .i64 1)],[(.int .i64 1),(.int .i64 8),(.int .i64 1)],[(.int .i64 1),(.int .i64 9),(.int .i64 1)],[(.int .i64 1),(.int .i64 10),(.int .i64 1)]]),
 (k9,.arr 2 [[(.int .i64 0),(.int .i64 0)],[(.int .i64 0),(.int .i64 1)],[(.int .i64 0),(.int .i64 1)],[(.int .i64 0),(.int .i64 1)],[(.int .i64 0),(.int .i64 1)],[(.int .i64 0),(.int .i64 1)],[(.int .i64 0),(.int .i64 1)],[(.int .i64 0),(.int .i64 1)],[(.int .i64 0),(.int .i64 1)],[(.int .i64 0),(.int .i64 1)],[(.int .i64 0),(.int .i64 1)],[(.int .i64 1),(.int .i64 1)],[(.int .i64 2),(.int .i64 1)],[(.int .i64 3),(.int .i64 1)],[(.int .i64 4),(.int .i64 1)],[(.int .i64 5),(.int .i64 1)],[(.int .i64 6),(.int .i64 1)],[(.int .i64 7),(.int .i64 1)],[(.int .i64 8),(.int .i64 1)],[(.int .i64 9),(.int .i64 1)],[(.int .i64 10),(.int .i64 1)],[(.int .i64 11),(.int .i64 1)],[(.int .i64 1),(.int .i64 1)],[(.int .i64 7),(.int .i64 1)],[(.int .i64 2),(.int .i64 1)],[(.int .i64 8),(.int .i64 1)],[(.int .i64 3),(.int .i64 1)],[(.int .i64 9),(.int .i64 1)],[(.int .i64 4),(.int .i64 1)],[(.int .i64 10),(.int .i64 1)],[(.int .i64 5),(.int .i64 1)],[(.int .i64 11),(.int .i64 1)],[(.int .i64 6),(.int .i64 1)],[(.int .i64 1),(.int .i64 1)],[(.int .i64 5),(.int .i64 1)],[(.int .i64 9),(.int .i64 1)],[(.int .i64 2),(.int .i64 1)],[(.int .i64 6),(.int .i64 1)],[(.int .i64 10),(.int .i64 1)],[(.int .i64 3),(.int .i64 1)],[(.int .i64 7),(.int .i64 1)],[(.int .i64 11),(.int .i64 1)],[(.int .i64 4),(.int .i64 1)],[(.int .i64 8),(.int .i64 1)],[(.int .i64 1),(.int .i64 1)],[(.int .i64 4),(.int .i64 1)],[(.int .i64 7),(.int .i64 1)],[(.int .i64 10),(.int .i64 1)],[(.int .i64 2),(.int .i64 1)],[(.int .i64 5),(.int .i64 1)],[(.int .i64 8),(.int .i64 1)],[(.int .i64 11),(.int .i64 1)],[(.int .i64 3),(.int .i64 1)],[(.int .i64 6),(.int .i64 1)],[(.int .i64 9),(.int .i64 1)],[(.int .i64 1),(.int .i64 1)],[(.int .i64 10),(.int .i64 1)],[(.int .i64 8),(.int .i64 1)],[(.int .i64 6),(.int .i64 1)],[(.int .i64 4),(.int .i64 1)],[(.int .i64 2),(.int .i64 1)],[(.int .i64 11),(.int .i64 1)],[(.int .i64 9),(.int .i64 1)],[(.int .i64 7),(.int .i64 1)],[(.int .i64 5),(.int .i64 1)],[(.int .i64 3),(.int .i64 1)],[(.int .i64 1),(.int .i64 1)],[(.int .i64 3),(.int .i64 1)],[(.int .i64 5),(.int .i64 1)],[(.int .i64 7),(.int .i64 1)],[(.int .i64 9),(.int .i64 1)],[(.int .i64 11),(.int .i64 1)],[(.int .i64 2),(.int .i64 1)],[(.int .i64 4),(.int .i64 1)],[(.int .i64 6),(.int .i64 1)],[(.int .i64 8),(.int .i64 1)],[(.int .i64 10),(.int .i64 1)],[(.int .i64 1),(.int .i64 1)],[(.int .i64 9),(.int .i64 1)],[(.int .i64 6),(.int .i64 1)],[(.int .i64 3),(.int .i64 1)],[(.int .i64 11),(.int .i64 1)],[(.int .i64 8),(.int .i64 1)],[(.int .i64 5),(.int .i64 1)],[(.int .i64 2),(.int .i64 1)],[(.int .i64 10),(.int .i64 1)],[(.int .i64 7),(.int .i64 1)],[(.int .i64 4),(.int .i64 1)],[(.int .i64 1),(.int .i64 1)],[(.int .i64 8),(.int .i64 1)],[(.int .i64 4),(.int .i64 1)],[(.int .i64 11),(.int .i64 1)],[(.int .i64 7),(.int .i64 1)],[(.int .i64 3),(.int .i64 1)],[(.int .i64 10),(.int .i64 1)],[(.int .i64 6),(.int .i64 1)],[(.int .i64 2),(.int .i64 1)],[(.int .i64 9),(.int .i64 1)],[(.int .i64 5),(.int .i64 1)],[(.int .i64 1),(.int .i64 1)],[(.int .i64 6),(.int .i64 1)],[(.int .i64 11),(.int .i64 1)],[(.int .i64 5),(.int .i64 1)],[(.int .i64 10),(.int .i64 1)],[(.int .i64 4),(.int .i64 1)],[(.int .i64 9),(.int .i64 1)],[(.int .i64 3),(.int .i64 1)],[(.int .i64 8),(.int .i64 1)],[(.int .i64 2),(.int .i64 1)],[(.int .i64 7),(.int .i64 1)],[(.int .i64 1),(.int .i64 1)],[(.int .i64 11),(.int .i64 1)],[(.int .i64 10),(.int .i64 1)],[(.int .i64 9),(.int .i64 1)],[(.int .i64 8),(.int .i64 1)],[(.int .i64 7),(.int .i64 1)],[(.int .i64 6),(.int .i64 1)],[(.int .i64 5),(.int .i64 1)],[(.int .i64 4),(.int .i64 1)],[(.int .i64 3),(.int .i64 1)],[(.int .i64 2),(.int .i64 1)]]),
 (k10,.arr 4 [[(.int .i64 11),(.int .i64 0),(.sg k8 0 12 3),(.sl k9 0 121 121)]])],(.tup [(.ptr k10 0),(.int .i64 0)]),none⟩
end E11
namespace R11
def k40 : Pth := (.s .d0 (.s .d5 .e))
def k85 : Pth := (.s .d5 (.s .d2 (.s .d1 .e)))
def k177 : Pth := (.s .d1 (.s .d6 (.s .d2 .e)))
def k134 : Pth := (.s .d6 (.s .d0 (.s .d2 .e)))
def k228 : Pth := (.s .d4 (.s .d4 (.s .d3 .e)))
def k293 : Pth := (.s .d5 (.s .d4 (.s .d4 .e)))
def k322 : Pth := (.s .d2 (.s .d0 (.s .d5 .e)))
def k377 : Pth := (.s .d1 (.s .d7 (.s .d5 .e)))
def k416 : Pth := (.s .d0 (.s .d4 (.s .d6 .e)))
def k475 : Pth := (.s .d3 (.s .d3 (.s .d7 .e)))
def k510 : Pth := (.s .d6 (.s .d7 (.s .d7 .e)))
def k571 : Pth := (.s .d3 (.s .d7 (.s .d0 (.s .d1 .e))))
def k653 : Pth := (.s .d5 (.s .d1 (.s .d2 (.s .d1 .e))))
def k604 : Pth := (.s .d4 (.s .d3 (.s .d1 (.s .d1 .e))))
def k698 : Pth := (.s .d2 (.s .d7 (.s .d2 (.s .d1 .e))))
def k761 : Pth := (.s .d1 (.s .d7 (.s .d3 (.s .d1 .e))))
def k843 : Pth := (.s .d3 (.s .d1 (.s .d5 (.s .d1 .e))))
def k792 : Pth := (.s .d0 (.s .d3 (.s .d4 (.s .d1 .e))))
def k939 : Pth := (.s .d3 (.s .d5 (.s .d6 (.s .d1 .e))))
def k886 : Pth := (.s .d6 (.s .d6 (.s .d5 (.s .d1 .e))))
def k1037 : Pth := (.s .d5 (.s .d1 (.s .d0 (.s .d2 .e))))
def k980 : Pth := (.s .d4 (.s .d2 (.s .d7 (.s .d1 .e))))
def k1121 : Pth := (.s .d1 (.s .d4 (.s .d1 (.s .d2 .e))))
def k1074 : Pth := (.s .d2 (.s .d6 (.s .d0 (.s .d2 .e))))
def k1168 : Pth := (.s .d0 (.s .d2 (.s .d2 (.s .d2 .e))))
def k1278 : Pth := (.s .d6 (.s .d7 (.s .d3 (.s .d2 .e))))
def k1233 : Pth := (.s .d1 (.s .d2 (.s .d3 (.s .d2 .e))))
def k1370 : Pth := (.s .d2 (.s .d3 (.s .d5 (.s .d2 .e))))
def k1327 : Pth := (.s .d7 (.s .d5 (.s .d4 (.s .d2 .e))))
def k1457 : Pth := (.s .d1 (.s .d6 (.s .d6 (.s .d2 .e))))
def k1486 : Pth := (.s .d6 (.s .d1 (.s .d7 (.s .d2 .e))))
def k1606 : Pth := (.s .d6 (.s .d0 (.s .d1 (.s .d3 .e))))
def k1549 : Pth := (.s .d5 (.s .d1 (.s .d0 (.s .d3 .e))))
def k1645 : Pth := (.s .d5 (.s .d5 (.s .d1 (.s .d3 .e))))
def k1698 : Pth := (.s .d2 (.s .d4 (.s .d2 (.s .d3 .e))))
def k1769 : Pth := (.s .d1 (.s .d5 (.s .d3 (.s .d3 .e))))
def k1804 : Pth := (.s .d4 (.s .d1 (.s .d4 (.s .d3 .e))))
def k1861 : Pth := (.s .d5 (.s .d0 (.s .d5 (.s .d3 .e))))
def k1930 : Pth := (.s .d2 (.s .d1 (.s .d6 (.s .d3 .e))))
def k2077 : Pth := (.s .d5 (.s .d3 (.s .d0 (.s .d4 .e))))
def k1963 : Pth := (.s .d3 (.s .d5 (.s .d6 (.s .d3 .e))))
def k2022 : Pth := (.s .d6 (.s .d4 (.s .d7 (.s .d3 .e))))
def k2169 : Pth := (.s .d1 (.s .d7 (.s .d1 (.s .d4 .e))))
def k2122 : Pth := (.s .d2 (.s .d1 (.s .d1 (.s .d4 .e))))
def k2250 : Pth := (.s .d2 (.s .d1 (.s .d3 (.s .d4 .e))))
def k2397 : Pth := (.s .d5 (.s .d3 (.s .d5 (.s .d4 .e))))
def k2281 : Pth := (.s .d1 (.s .d5 (.s .d3 (.s .d4 .e))))
def k2342 : Pth := (.s .d6 (.s .d4 (.s .d4 (.s .d4 .e))))
def k2489 : Pth := (.s .d1 (.s .d7 (.s .d6 (.s .d4 .e))))
def k2558 : Pth := (.s .d6 (.s .d7 (.s .d7 (.s .d4 .e))))
def k2440 : Pth := (.s .d0 (.s .d1 (.s .d6 (.s .d4 .e))))
def k2650 : Pth := (.s .d2 (.s .d3 (.s .d1 (.s .d5 .e))))
def k2721 : Pth := (.s .d1 (.s .d4 (.s .d2 (.s .d5 .e))))
def k2599 : Pth := (.s .d7 (.s .d4 (.s .d0 (.s .d5 .e))))
def k2870 : Pth := (.s .d6 (.s .d6 (.s .d4 (.s .d5 .e))))
def k2813 : Pth := (.s .d5 (.s .d7 (.s .d3 (.s .d5 .e))))
def k2758 : Pth := (.s .d6 (.s .d0 (.s .d3 (.s .d5 .e))))
def k3025 : Pth := (.s .d1 (.s .d2 (.s .d7 (.s .d5 .e))))
def k2962 : Pth := (.s .d2 (.s .d2 (.s .d6 (.s .d5 .e))))
def k2917 : Pth := (.s .d5 (.s .d4 (.s .d5 (.s .d5 .e))))
def k3049 : Pth := (.s .d1 (.s .d5 (.s .d7 (.s .d5 .e))))
def o : Orc := ⟨[(.agg [(.int .i64 11),(.int .i64 2),(.int .i64 1)])],[(q,64,1,tabL)],[(k40,.arr 1 [[(.int .u32 1)]]),
 (k85,.arr 1 [[(.int .u32 1)],[(.int .u32 0)]]),
 (k177,.arr 1 [[(.int .u32 1)],[(.int .u32 0)]]),
 (k134,.arr 1 [[(.int .u32 1)]]),
 (k228,.arr 1 [[(.int .u32 1)]]),
 (k293,.arr 1 [[(.int .u32 1)],[(.int .u32 0)]]),
 (k322,.arr 1 [[(.int .u32 1)]]),
 (k377,.arr 1 [[(.int .u32 1)],[(.int .u32 0)]]),
 (k416,.arr 1 [[(.int .u32 1)]]),
 (k475,.arr 1 [[(.int .u32 1)],[(.int .u32 0)]]),
 (k510,.arr 1 [[(.int .u32 1)]]),
 (k571,.arr 1 [[(.int .u32 1)],[(.int .u32 0)]]),
 (k653,.arr 1 [[(.int .u32 1)],[(.int .u32 0)]]),
 (k604,.arr 1 [[(.int .u32 1)]]),
 (k698,.arr 1 [[(.int .u32 1)]]),
 (k761,.arr 1 [[(.int .u32 1)],[(.int .u32 0)]]),
 (k843,.arr 1 [[(.int .u32 1)],[(.int .u32 0)]]),
 (k792,.arr 1 [[(.int .u32 1)]]),
 (k939,.arr 1 [[(.int .u32 1)],[(.int .u32 0)]]),
 (k886,.arr 1 [[(.int .u32 1)]]),
 (k1037,.arr 1 [[(.int .u32 1)],[(.int .u32 0)]]),
 (k980,.arr 1 [[(.int .u32 1)]]),
 (k1121,.arr 1 [[(.int .u32 1)],[(.int .u32 0)]]),
 (k1074,.arr 1 [[(.int .u32 1)]]),
 (k1168,.arr 1 [[(.int .u32 1)]]),
 (k1278,.arr 1 [[(.int .u32 1)],[(.int .u32 0)]]),
 (k1233,.arr 1 [[(.int .u32 1)],[(.int .u32 0)]]),
 (k1370,.arr 1 [[(.int .u32 1)],[(.int .u32 0)]]),
 (k1327,.arr 1 [[(.int .u32 1)]]),
 (k1457,.arr 1 [[(.int .u32 1)],[(.int .u32 0)]]),
 (k1486,.arr 1 [[(.int .u32 1)]]),
 (k1606,.arr 1 [[(.int .u32 1)],[(.int .u32 0)]]),
 (k1549,.arr 1 [[(.int .u32 1)],[(.int .u32 0)]]),
 (k1645,.arr 1 [[(.int .u32 1)]]),
 (k1698,.arr 1 [[(.int .u32 1)],[(.int .u32 0)]]),
 (k1769,.arr 1 [[(.int .u32 1)],[(.int .u32 0)]]),
 (k1804,.arr 1 [[(.int .u32 1)]]),
 (k1861,.arr 1 [[(.int .u32 1)],[(.int .u32 0)]]),
 (k1930,.arr 1 [[(.int .u32 1)],[(.int .u32 0)]]),
 (k2077,.arr 1 [[(.int .u32 1)],[(.int .u32 0)]]),
 (k1963,.arr 1 [[(.int .u32 1)]]),
 (k2022,.arr 1 [[(.int .u32 1)],[(.int .u32 0)]]),
 (k2169,.arr 1 [[(.int .u32 1)],[(.int .u32 0)]]),
 (k2122,.arr 1 [[(.int .u32 1)]]),
 (k2250,.arr 1 [[(.int .u32 1)],[(.int .u32 0)]]),
 (k2397,.arr 1 [[(.int .u32 1)],[(.int .u32 0)]]),
 (k2281,.arr 1 [[(.int .u32 1)]]),
 (k2342,.arr 1 [[(.int .u32 1)],[(.int .u32 0)]]),
 (k2489,.arr 1 [[(.int .u32 1)],[(.int .u32 0)]]),
 (k2558,.arr 1 [[(.int .u32 1)],[(.int .u32 0)]]),
 (k2440,.arr 1 [[(.int .u32 1)]]),
 (k2650,.arr 1 [[(.int .u32 1)],[(.int .u32 0)]]),
 (k2721,.arr 1 [[(.int .u32 1)],[(.int .u32 0)]]),
 (k2599,.arr 1 [[(.int .u32 1)]]),
 (k2870,.arr 1 [[(.int .u32 1)],[(.int .u32 0)]]),
 (k2813,.arr 1 [[(.int .u32 1)],[(.int .u32 0)]]),
 (k2758,.arr 1 [[(.int .u32 1)]]),
 (k3025,.arr 1 [[(.int .u32 1)],[(.int .u32 0)]]),
 (k2962,.arr 1 [[(.int .u32 1)],[(.int .u32 0)]]),
 (k2917,.arr 1 [[(.int .u32 1)]]),
 (k3049,.arr 2 [[(.bool false),(.sl k40 0 1 1)],[(.bool false),(.sl k85 0 1 2)],[(.bool false),.snil],[(.bool false),.snil],[(.bool false),.snil],[(.bool false),.snil],[(.bool false),.snil],[(.bool false),.snil],[(.bool false),.snil],[(.bool false),.snil],[(.bool false),.snil],[(.bool false),.snil],[(.bool false),(.sl k177 0 1 2)],[(.bool false),(.sl k134 0 1 1)],[(.bool false),.snil],[(.bool false),.snil],[(.bool false),.snil],[(.bool false),.snil],[(.bool false),.snil],[(.bool false),.snil],[(.bool false),.snil],[(.bool false),.snil],[(.bool false),.snil],[(.bool false),.snil],[(.bool false),.snil],[(.bool false),.snil],[(.bool false),(.sl k228 0 1 1)],[(.bool false),.snil],[(.bool false),.snil],[(.bool false),.snil],[(.bool false),.snil],[(.bool false),.snil],[(.bool false),.snil],[(.bool false),.snil],[(.bool false),.snil],[(.bool false),(.sl k293 0 1 2)],[(.bool false),.snil],[(.bool false),.snil],[(.bool false),.snil],[(.bool false),(.sl k322 0 1 1)],[(.bool false),.snil],[(.bool false),.snil],[(.bool false),(.sl k377 0 1 2)],[(.bool false),.snil],[(.bool false),.snil],[(.bool false),.snil],[(.bool false),.snil],[(.bool false),.snil],[(.bool false),.snil],[(.bool false),.snil],[(.bool false),.snil],[(.bool false),.snil],[(.bool false),(.sl k416 0 1 1)],[(.bool false),.snil],[(.bool false),.snil],[(.bool false),.snil],[(.bool false),(.sl k475 0 1 2)],[(.bool false),.snil],[(.bool false),.snil],[(.bool false),.snil],[(.bool false),.snil],[(.bool false),.snil],[(.bool false),.snil],[(.bool false),.snil],[(.bool false),.snil],[(.bool false),(.sl k510 0 1 1)],[(.bool false),.snil],[(.bool false),.snil],[(.bool false),.snil],[(.bool false),(.sl k571 0 1 2)],[(.bool false),.snil],[(.bool false),.snil],[(.bool false),.snil],[(.bool false),.snil],[(.bool false),.snil],[(.bool false),(.sl k653 0 1 2)],[(.bool false),.snil],[(.bool false),.snil],[(.bool false),(.sl k604 0 1 1)],[(.bool false),.snil],[(.bool false),.snil],[(.bool false),.snil],[(.bool false),.snil],[(.bool false),.snil],[(.bool false),.snil],[(.bool false),.snil],[(.bool false),.snil],[(.bool false),.snil],[(.bool false),.snil],[(.bool false),.snil],[(.bool false),.snil],[(.bool false),(.sl k698 0 1 1)],[(.bool false),.snil],[(.bool false),.snil],[(.bool false),(.sl k761 0 1 2)],[(.bool false),.snil],[(.bool false),.snil],[(.bool false),.snil],[(.bool false),.snil],[(.bool false),.snil],[(.bool false),(.sl k843 0 1 2)],[(.bool false),.snil],[(.bool false),.snil],[(.bool false),.snil],[(.bool false),(.sl k792 0 1 1)],[(.bool false),.snil],[(.bool false),.snil],[(.bool false),.snil],[(.bool false),.snil],[(.bool false),.snil],[(.bool false),.snil],[(.bool false),.snil],[(.bool false),.snil],[(.bool false),(.sl k939 0 1 2)],[(.bool false),.snil],[(.bool false),.snil],[(.bool false),.snil],[(.bool false),(.sl k886 0 1 1)],[(.bool false),.snil],[(.bool false),.snil],[(.bool false),.snil],[(.bool false),.snil],[(.bool false),.snil],[(.bool false),.snil],[(.bool false),.snil],[(.bool false),.snil],[(.bool false),.snil],[(.bool false),(.sl k1037 0 1 2)],[(.bool false),.snil],[(.bool false),.snil],[(.bool false),(.sl k980 0 1 1)],[(.bool false),.snil],[(.bool false),.snil],[(.bool false),.snil],[(.bool false),(.sl k1121 0 1 2)],[(.bool false),.snil],[(.bool false),.snil],[(.bool false),.snil],[(.bool false),.snil],[(.bool false),.snil],[(.bool false),.snil],[(.bool false),.snil],[(.bool false),.snil],[(.bool false),(.sl k1074 0 1 1)],[(.bool false),(.sl k1168 0 1 1)],[(.bool false),(.sl k1278 0 1 2)],[(.bool false),.snil],[(.bool false),.snil],[(.bool false),.snil],[(.bool false),.snil],[(.bool false),.snil],[(.bool false),.snil],[(.bool false),.snil],[(.bool false),.snil],[(.bool false),.snil],[(.bool false),(.sl k1233 0 1 2)],[(.bool false),(.sl k1370 0 1 2)],[(.bool false),(.sl k1327 0 1 1)],[(.bool false),.snil],[(.bool false),.snil],[(.bool false),.snil],[(.bool false),.snil],[(.bool false),.snil],[(.bool false),.snil],[(.bool false),.snil],[(.bool false),.snil],[(.bool false),.snil],[(.bool false),(.sl k1457 0 1 2)],[(.bool false),.snil],[(.bool false),.snil],[(.bool false),(.sl k1486 0 1 1)],[(.bool false),.snil],[(.bool false),.snil],[(.bool false),.snil],[(.bool false),(.sl k1606 0 1 2)],[(.bool false),.snil],[(.bool false),.snil],[(.bool false),.snil],[(.bool false),(.sl k1549 0 1 2)],[(.bool false),.snil],[(.bool false),.snil],[(.bool false),.snil],[(.bool false),.snil],[(.bool false),(.sl k1645 0 1 1)],[(.bool false),.snil],[(.bool false),(.sl k1698 0 1 2)],[(.bool false),.snil],[(.bool false),.snil],[(.bool false),(.sl k1769 0 1 2)],[(.bool false),.snil],[(.bool false),.snil],[(.bool false),.snil],[(.bool false),.snil],[(.bool false),.snil],[(.bool false),.snil],[(.bool false),.snil],[(.bool false),(.sl k1804 0 1 1)],[(.bool false),.snil],[(.bool false),.snil],[(.bool false),(.sl k1861 0 1 2)],[(.bool false),.snil],[(.bool false),(.sl k1930 0 1 2)],[(.bool false),.snil],[(.bool false),.snil],[(.bool false),.snil],[(.bool false),.snil],[(.bool false),.snil],[(.bool false),(.sl k2077 0 1 2)],[(.bool false),.snil],[(.bool false),(.sl k1963 0 1 1)],[(.bool false),.snil],[(.bool false),.snil],[(.bool false),(.sl k2022 0 1 2)],[(.bool false),.snil],[(.bool false),.snil],[(.bool false),.snil],[(.bool false),.snil],[(.bool false),.snil],[(.bool false),(.sl k2169 0 1 2)],[(.bool false),.snil],[(.bool false),.snil],[(.bool false),.snil],[(.bool false),(.sl k2122 0 1 1)],[(.bool false),.snil],[(.bool false),.snil],[(.bool false),.snil],[(.bool false),(.sl k2250 0 1 2)],[(.bool false),.snil],[(.bool false),.snil],[(.bool false),.snil],[(.bool false),.snil],[(.bool false),.snil],[(.bool false),(.sl k2397 0 1 2)],[(.bool false),.snil],[(.bool false),.snil],[(.bool false),(.sl k2281 0 1 1)],[(.bool false),.snil],[(.bool false),(.sl k2342 0 1 2)],[(.bool false),.snil],[(.bool false),.snil],[(.bool false),.snil],[(.bool false),.snil],[(.bool false),.snil],[(.bool false),(.sl k2489 0 1 2)],[(.bool false),.snil],[(.bool false),(.sl k2558 0 1 2)],[(.bool false),.snil],[(.bool false),.snil],[(.bool false),(.sl k2440 0 1 1)],[(.bool false),.snil],[(.bool false),.snil],[(.bool false),.snil],[(.bool false),.snil],[(.bool false),.snil],[(.bool false),.snil],[(.bool false),.snil],[(.bool false),(.sl k2650 0 1 2)],[(.bool false),.snil],[(.bool false),.snil],[(.bool false),(.sl k2721 0 1 2)],[(.bool false),.snil],[(.bool false),(.sl k2599 0 1 1)],[(.bool false),.snil],[(.bool false),.snil],[(.bool false),.snil],[(.bool false),.snil],[(.bool false),(.sl k2870 0 1 2)],[(.bool false),.snil],[(.bool false),.snil],[(.bool false),.snil],[(.bool false),(.sl k2813 0 1 2)],[(.bool false),.snil],[(.bool false),.snil],[(.bool false),.snil],[(.bool false),(.sl k2758 0 1 1)],[(.bool false),.snil],[(.bool false),(.sl k3025 0 1 2)],[(.bool false),(.sl k2962 0 1 2)],[(.bool false),.snil],[(.bool false),.snil],[(.bool false),.snil],[(.bool false),.snil],[(.bool false),.snil],[(.bool false),.snil],[(.bool false),.snil],[(.bool false),.snil],[(.bool false),.snil],[(.bool false),(.sl k2917 0 1 1)]])],(.tup [(.agg [(.int .i64 24),(.int .i64 12),(.sg k3049 0 288 2)]),(.int .i64 0)]),none⟩
end R11
namespace M11
def k8177 : Pth := (.s .d1 (.s .d6 (.s .d7 (.s .d7 (.s .d1 .e)))))
def k9164 : Pth := (.s .d4 (.s .d1 (.s .d7 (.s .d1 (.s .d2 .e)))))
def k9167 : Pth := (.s .d7 (.s .d1 (.s .d7 (.s .d1 (.s .d2 .e)))))
def k9091 : Pth := (.s .d3 (.s .d0 (.s .d6 (.s .d1 (.s .d2 .e)))))
def k9097 : Pth := (.s .d1 (.s .d1 (.s .d6 (.s .d1 (.s .d2 .e)))))
def k9080 : Pth := (.s .d0 (.s .d7 (.s .d5 (.s .d1 (.s .d2 .e)))))
def k9075 : Pth := (.s .d3 (.s .d6 (.s .d5 (.s .d1 (.s .d2 .e)))))
def k9078 : Pth := (.s .d6 (.s .d6 (.s .d5 (.s .d1 (.s .d2 .e)))))
def k9065 : Pth := (.s .d1 (.s .d5 (.s .d5 (.s .d1 (.s .d2 .e)))))
def k9071 : Pth := (.s .d7 (.s .d5 (.s .d5 (.s .d1 (.s .d2 .e)))))
def k9054 : Pth := (.s .d6 (.s .d3 (.s .d5 (.s .d1 (.s .d2 .e)))))
def k9008 : Pth := (.s .d0 (.s .d6 (.s .d4 (.s .d1 (.s .d2 .e)))))
def k9014 : Pth := (.s .d6 (.s .d6 (.s .d4 (.s .d1 (.s .d2 .e)))))
def k9020 : Pth := (.s .d4 (.s .d7 (.s .d4 (.s .d1 (.s .d2 .e)))))
def k9003 : Pth := (.s .d3 (.s .d5 (.s .d4 (.s .d1 (.s .d2 .e)))))
def k8913 : Pth := (.s .d1 (.s .d2 (.s .d3 (.s .d1 (.s .d2 .e)))))
def k8919 : Pth := (.s .d7 (.s .d2 (.s .d3 (.s .d1 (.s .d2 .e)))))
def k8998 : Pth := (.s .d6 (.s .d4 (.s .d4 (.s .d1 (.s .d2 .e)))))
def k9001 : Pth := (.s .d1 (.s .d5 (.s .d4 (.s .d1 (.s .d2 .e)))))
def k8908 : Pth := (.s .d4 (.s .d1 (.s .d3 (.s .d1 (.s .d2 .e)))))
def k8774 : Pth := (.s .d6 (.s .d0 (.s .d1 (.s .d1 (.s .d2 .e)))))
def k8856 : Pth := (.s .d0 (.s .d3 (.s .d2 (.s .d1 (.s .d2 .e)))))
def k8859 : Pth := (.s .d3 (.s .d3 (.s .d2 (.s .d1 (.s .d2 .e)))))
def k8903 : Pth := (.s .d7 (.s .d0 (.s .d3 (.s .d1 (.s .d2 .e)))))
def k8906 : Pth := (.s .d2 (.s .d1 (.s .d3 (.s .d1 (.s .d2 .e)))))
def k8769 : Pth := (.s .d1 (.s .d0 (.s .d1 (.s .d1 (.s .d2 .e)))))
def k8679 : Pth := (.s .d7 (.s .d4 (.s .d7 (.s .d0 (.s .d2 .e)))))
def k8761 : Pth := (.s .d1 (.s .d7 (.s .d0 (.s .d1 (.s .d2 .e)))))
def k8764 : Pth := (.s .d4 (.s .d7 (.s .d0 (.s .d1 (.s .d2 .e)))))
def k8691 : Pth := (.s .d3 (.s .d6 (.s .d7 (.s .d0 (.s .d2 .e)))))
def k8674 : Pth := (.s .d2 (.s .d4 (.s .d7 (.s .d0 (.s .d2 .e)))))
def k8552 : Pth := (.s .d0 (.s .d5 (.s .d5 (.s .d0 (.s .d2 .e)))))
def k8558 : Pth := (.s .d6 (.s .d5 (.s .d5 (.s .d0 (.s .d2 .e)))))
def k8637 : Pth := (.s .d5 (.s .d7 (.s .d6 (.s .d0 (.s .d2 .e)))))
def k8640 : Pth := (.s .d0 (.s .d0 (.s .d7 (.s .d0 (.s .d2 .e)))))
def k8547 : Pth := (.s .d3 (.s .d4 (.s .d5 (.s .d0 (.s .d2 .e)))))
def k8457 : Pth := (.s .d1 (.s .d1 (.s .d4 (.s .d0 (.s .d2 .e)))))
def k8463 : Pth := (.s .d7 (.s .d1 (.s .d4 (.s .d0 (.s .d2 .e)))))
def k8542 : Pth := (.s .d6 (.s .d3 (.s .d5 (.s .d0 (.s .d2 .e)))))
def k8545 : Pth := (.s .d1 (.s .d4 (.s .d5 (.s .d0 (.s .d2 .e)))))
def k8452 : Pth := (.s .d4 (.s .d0 (.s .d4 (.s .d0 (.s .d2 .e)))))
def k8254 : Pth := (.s .d6 (.s .d7 (.s .d0 (.s .d0 (.s .d2 .e)))))
def k8336 : Pth := (.s .d0 (.s .d2 (.s .d2 (.s .d0 (.s .d2 .e)))))
def k8339 : Pth := (.s .d3 (.s .d2 (.s .d2 (.s .d0 (.s .d2 .e)))))
def k8415 : Pth := (.s .d7 (.s .d3 (.s .d3 (.s .d0 (.s .d2 .e)))))
def k8418 : Pth := (.s .d2 (.s .d4 (.s .d3 (.s .d0 (.s .d2 .e)))))
def k8249 : Pth := (.s .d1 (.s .d7 (.s .d0 (.s .d0 (.s .d2 .e)))))
def k8228 : Pth := (.s .d4 (.s .d4 (.s .d0 (.s .d0 (.s .d2 .e)))))
def k8244 : Pth := (.s .d4 (.s .d6 (.s .d0 (.s .d0 (.s .d2 .e)))))
def k8247 : Pth := (.s .d7 (.s .d6 (.s .d0 (.s .d0 (.s .d2 .e)))))
def k8240 : Pth := (.s .d0 (.s .d6 (.s .d0 (.s .d0 (.s .d2 .e)))))
def k8223 : Pth := (.s .d7 (.s .d3 (.s .d0 (.s .d0 (.s .d2 .e)))))
def k8202 : Pth := (.s .d2 (.s .d1 (.s .d0 (.s .d0 (.s .d2 .e)))))
def k8208 : Pth := (.s .d0 (.s .d2 (.s .d0 (.s .d0 (.s .d2 .e)))))
def k8218 : Pth := (.s .d2 (.s .d3 (.s .d0 (.s .d0 (.s .d2 .e)))))
def k8221 : Pth := (.s .d5 (.s .d3 (.s .d0 (.s .d0 (.s .d2 .e)))))
def k8197 : Pth := (.s .d5 (.s .d0 (.s .d0 (.s .d0 (.s .d2 .e)))))
def k8183 : Pth := (.s .d7 (.s .d6 (.s .d7 (.s .d7 (.s .d1 .e)))))
def k8189 : Pth := (.s .d5 (.s .d7 (.s .d7 (.s .d7 (.s .d1 .e)))))
def k8195 : Pth := (.s .d3 (.s .d0 (.s .d0 (.s .d0 (.s .d2 .e)))))
def k8178 : Pth := (.s .d2 (.s .d6 (.s .d7 (.s .d7 (.s .d1 .e)))))
def k8170 : Pth := (.s .d2 (.s .d5 (.s .d7 (.s .d7 (.s .d1 .e)))))
def k8171 : Pth := (.s .d3 (.s .d5 (.s .d7 (.s .d7 (.s .d1 .e)))))
def o : Orc := ⟨[(.agg [(.int .i64 11),(.int .i64 2),(.int .i64 1)])],[(q,64,1,tabL)],[(k8177,.arr 1 [[(.int .i64 1)],[(.int .i64 9)],[(.int .i64 10)]]),
 (k9164,.arr 1 [[(.int .u32 1)]]),
 (k9167,.arr 1 [[(.int .u32 1)]]),
 (k9091,.arr 1 [[(.int .u32 1)]]),
 (k9097,.arr 1 [[(.int .u32 1)]]),
 (k9080,.arr 4 [[(.bool true),(.sl k9164 0 1 1),(.bool false),(.sl k9167 0 1 1)],[(.bool false),.snil,(.bool false),(.sl k9091 0 1 1)],[(.bool false),.snil,(.bool false),(.sl k9097 0 1 1)]]),
 (k9075,.arr 1 [[(.int .u32 1)]]),
 (k9078,.arr 1 [[(.int .u32 1)]]),
 (k9065,.arr 1 [[(.int .u32 1)]]),
 (k9071,.arr 1 [[(.int .u32 1)]]),
 (k9054,.arr 4 [[(.bool false),(.sl k9075 0 1 1),(.bool false),(.sl k9078 0 1 1)],[(.bool false),.snil,(.bool false),(.sl k9065 0 1 1)],[(.bool false),.snil,(.bool false),(.sl k9071 0 1 1)]]),
 (k9008,.arr 1 [[(.int .u32 1)]]),
 (k9014,.arr 1 [[(.int .u32 1)]]),
 (k9020,.arr 1 [[(.int .u32 1)]]),
 (k9003,.arr 4 [[(.bool false),.snil,(.bool false),(.sl k9008 0 1 1)],[(.bool false),.snil,(.bool false),(.sl k9014 0 1 1)],[(.bool false),.snil,(.bool false),(.sl k9020 0 1 1)]]),
 (k8913,.arr 1 [[(.int .u32 1)]]),
 (k8919,.arr 1 [[(.int .u32 1)]]),
 (k8998,.arr 1 [[(.int .u32 1)],[(.int .u32 0)]]),
 (k9001,.arr 1 [[(.int .u32 1)]]),
 (k8908,.arr 4 [[(.bool false),.snil,(.bool false),(.sl k8913 0 1 1)],[(.bool false),.snil,(.bool false),(.sl k8919 0 1 1)],[(.bool false),(.sl k8998 0 1 2),(.bool false),(.sl k9001 0 1 1)]]),
 (k8774,.arr 1 [[(.int .u32 1)]]),
 (k8856,.arr 1 [[(.int .u32 1)]]),
 (k8859,.arr 1 [[(.int .u32 1)]]),
 (k8903,.arr 1 [[(.int .u32 1)],[(.int .u32 0)]]),
 (k8906,.arr 1 [[(.int .u32 1)]]),
 (k8769,.arr 4 [[(.bool false),.snil,(.bool false),(.sl k8774 0 1 1)],[(.bool true),(.sl k8856 0 1 1),(.bool false),(.sl k8859 0 1 1)],[(.bool false),(.sl k8903 0 1 2),(.bool false),(.sl k8906 0 1 1)]]),
 (k8679,.arr 1 [[(.int .u32 1)]]),
 (k8761,.arr 1 [[(.int .u32 1)]]),
 (k8764,.arr 1 [[(.int .u32 1)]]),
 (k8691,.arr 1 [[(.int .u32 1)]]),
 (k8674,.arr 4 [[(.bool false),.snil,(.bool false),(.sl k8679 0 1 1)],[(.bool true),(.sl k8761 0 1 1),(.bool false),(.sl k8764 0 1 1)],[(.bool false),.snil,(.bool false),(.sl k8691 0 1 1)]]),
 (k8552,.arr 1 [[(.int .u32 1)]]),
 (k8558,.arr 1 [[(.int .u32 1)]]),
 (k8637,.arr 1 [[(.int .u32 1)]]),
 (k8640,.arr 1 [[(.int .u32 1)]]),
 (k8547,.arr 4 [[(.bool false),.snil,(.bool false),(.sl k8552 0 1 1)],[(.bool false),.snil,(.bool false),(.sl k8558 0 1 1)],[(.bool true),(.sl k8637 0 1 1),(.bool false),(.sl k8640 0 1 1)]]),
 (k8457,.arr 1 [[(.int .u32 1)]]),
 (k8463,.arr 1 [[(.int .u32 1)]]),
 (k8542,.arr 1 [[(.int .u32 1)]]),
 (k8545,.arr 1 [[(.int .u32 1)]]),
 (k8452,.arr 4 [[(.bool false),.snil,(.bool false),(.sl k8457 0 1 1)],[(.bool false),.snil,(.bool false),(.sl k8463 0 1 1)],[(.bool true),(.sl k8542 0 1 1),(.bool false),(.sl k8545 0 1 1)]]),
 (k8254,.arr 1 [[(.int .u32 1)]]),
 (k8336,.arr 1 [[(.int .u32 1)],[(.int .u32 0)]]),
 (k8339,.arr 1 [[(.int .u32 1)]]),
 (k8415,.arr 1 [[(.int .u32 1)]]),
 (k8418,.arr 1 [[(.int .u32 1)]]),
 (k8249,.arr 4 [[(.bool false),.snil,(.bool false),(.sl k8254 0 1 1)],[(.bool false),(.sl k8336 0 1 2),(.bool false),(.sl k8339 0 1 1)],[(.bool true),(.sl k8415 0 1 1),(.bool false),(.sl k8418 0 1 1)]]),
 (k8228,.arr 1 [[(.int .u32 1)]]),
 (k8244,.arr 1 [[(.int .u32 1)]]),
 (k8247,.arr 1 [[(.int .u32 1)]]),
 (k8240,.arr 1 [[(.int .u32 1)]]),
 (k8223,.arr 4 [[(.bool false),.snil,(.bool false),(.sl k8228 0 1 1)],[(.bool false),(.sl k8244 0 1 1),(.bool false),(.sl k8247 0 1 1)],[(.bool false),.snil,(.bool false),(.sl k8240 0 1 1)]]),
 (k8202,.arr 1 [[(.int .u32 1)]]),
 (k8208,.arr 1 [[(.int .u32 1)]]),
 (k8218,.arr 1 [[(.int .u32 1)]]),
 (k8221,.arr 1 [[(.int .u32 1)]]),
 (k8197,.arr 4 [[(.bool false),.snil,(.bool false),(.sl k8202 0 1 1)],[(.bool false),.snil,(.bool false),(.sl k8208 0 1 1)],[(.bool false),(.sl k8218 0 1 1),(.bool false),(.sl k8221 0 1 1)]]),
 (k8183,.arr 1 [[(.int .u32 1)]]),
 (k8189,.arr 1 [[(.int .u32 1)]]),
 (k8195,.arr 1 [[(.int .u32 1)]]),
 (k8178,.arr 4 [[(.bool false),.snil,(.bool false),(.sl k8183 0 1 1)],[(.bool false),.snil,(.bool false),(.sl k8189 0 1 1)],[(.bool false),.snil,(.bool false),(.sl k8195 0 1 1)]]),
 (k8170,.arr 1 [[(.sl k9080 0 3 3)],[(.sl k9054 0 3 3)],[(.sl k9003 0 3 3)],[(.sl k8908 0 3 3)],[(.sl k8769 0 3 3)],[(.sl k8674 0 3 3)],[(.sl k8547 0 3 3)],[(.sl k8452 0 3 3)],[(.sl k8249 0 3 3)],[(.sl k8223 0 3 3)],[(.sl k8197 0 3 3)],[(.sl k8178 0 3 3)]]),
 (k8171,.arr 5 [[(.int .i64 11),(.int .i64 2),(.int .i64 1),(.sg k8177 0 3 1),(.sl k8170 0 12 12)]])],(.tup [(.ptr k8171 0),(.int .i64 0)]),none⟩
end M11
namespace X64
def k66 : Pth := (.s .d2 (.s .d0 (.s .d1 .e)))
def k6827 : Pth := (.s .d3 (.s .d5 (.s .d2 (.s .d5 (.s .d1 .e)))))
def k65 : Pth := (.s .d1 (.s .d0 (.s .d1 .e)))
def k64 : Pth := (.s .d0 (.s .d0 (.s .d1 .e)))
def k63 : Pth := (.s .d7 (.s .d7 .e))
def k62 : Pth := (.s .d6 (.s .d7 .e))
def k61 : Pth := (.s .d5 (.s .d7 .e))
def k60 : Pth := (.s .d4 (.s .d7 .e))
def k59 : Pth := (.s .d3 (.s .d7 .e))
def k58 : Pth := (.s .d2 (.s .d7 .e))
def k57 : Pth := (.s .d1 (.s .d7 .e))
def k56 : Pth := (.s .d0 (.s .d7 .e))
def k55 : Pth := (.s .d7 (.s .d6 .e))
def k54 : Pth := (.s .d6 (.s .d6 .e))
def k53 : Pth := (.s .d5 (.s .d6 .e))
def k52 : Pth := (.s .d4 (.s .d6 .e))
def k51 : Pth := (.s .d3 (.s .d6 .e))
def k50 : Pth := (.s .d2 (.s .d6 .e))
def k49 : Pth := (.s .d1 (.s .d6 .e))
def k48 : Pth := (.s .d0 (.s .d6 .e))
def k47 : Pth := (.s .d7 (.s .d5 .e))
def k46 : Pth := (.s .d6 (.s .d5 .e))
def k45 : Pth := (.s .d5 (.s .d5 .e))
def k44 : Pth := (.s .d4 (.s .d5 .e))
def k43 : Pth := (.s .d3 (.s .d5 .e))
def k42 : Pth := (.s .d2 (.s .d5 .e))
def k41 : Pth := (.s .d1 (.s .d5 .e))
def k40 : Pth := (.s .d0 (.s .d5 .e))
def k39 : Pth := (.s .d7 (.s .d4 .e))
def k38 : Pth := (.s .d6 (.s .d4 .e))
def k37 : Pth := (.s .d5 (.s .d4 .e))
def k36 : Pth := (.s .d4 (.s .d4 .e))
def k35 : Pth := (.s .d3 (.s .d4 .e))
def k34 : Pth := (.s .d2 (.s .d4 .e))
def k33 : Pth := (.s .d1 (.s .d4 .e))
def k32 : Pth := (.s .d0 (.s .d4 .e))
def k31 : Pth := (.s .d7 (.s .d3 .e))
def k30 : Pth := (.s .d6 (.s .d3 .e))
def k29 : Pth := (.s .d5 (.s .d3 .e))
def k28 : Pth := (.s .d4 (.s .d3 .e))
def k27 : Pth := (.s .d3 (.s .d3 .e))
def k26 : Pth := (.s .d2 (.s .d3 .e))
def k25 : Pth := (.s .d1 (.s .d3 .e))
def k24 : Pth := (.s .d0 (.s .d3 .e))
def k23 : Pth := (.s .d7 (.s .d2 .e))
def k22 : Pth := (.s .d6 (.s .d2 .e))
def k21 : Pth := (.s .d5 (.s .d2 .e))
def k20 : Pth := (.s .d4 (.s .d2 .e))
def k19 : Pth := (.s .d3 (.s .d2 .e))
def k18 : Pth := (.s .d2 (.s .d2 .e))
def k17 : Pth := (.s .d1 (.s .d2 .e))
def k16 : Pth := (.s .d0 (.s .d2 .e))
def k15 : Pth := (.s .d7 (.s .d1 .e))
def k14 : Pth := (.s .d6 (.s .d1 .e))
def k13 : Pth := (.s .d5 (.s .d1 .e))
def k12 : Pth := (.s .d4 (.s .d1 .e))
def k11 : Pth := (.s .d3 (.s .d1 .e))
def k10 : Pth := (.s .d2 (.s .d1 .e))
def k9 : Pth := (.s .d1 (.s .d1 .e))
def k8 : Pth := (.s .d0 (.s .d1 .e))
def k7 : Pth := (.s .d7 .e)
def k6 : Pth := (.s .d6 .e)
def k5 : Pth := (.s .d5 .e)
def k4 : Pth := (.s .d4 .e)
def k3 : Pth := (.s .d3 .e)
def k6440 : Pth := (.s .d0 (.s .d5 (.s .d4 (.s .d4 (.s .d1 .e)))))
def k6446 : Pth := (.s .d6 (.s .d5 (.s .d4 (.s .d4 (.s .d1 .e)))))
def k6812 : Pth := (.s .d4 (.s .d3 (.s .d2 (.s .d5 (.s .d1 .e)))))
def k6817 : Pth := (.s .d1 (.s .d4 (.s .d2 (.s .d5 (.s .d1 .e)))))
def k6825 : Pth := (.s .d1 (.s .d5 (.s .d2 (.s .d5 (.s .d1 .e)))))
def o : Orc := ⟨[(.ptr k65 0),(.int .i64 1)],[(q,64,1,tabL)],[(k3,.arr 1 [[(.int .i64 1)],[(.int .i64 9)],[(.int .i64 10)]]),
 (k4,.arr 1 [[(.int .u32 1)]]),
 (k5,.arr 1 [[(.int .u32 1)]]),
 (k6,.arr 1 [[(.int .u32 1)]]),
 (k7,.arr 1 [[(.int .u32 1)]]),
 (k8,.arr 4 [[(.bool true),(.sl k4 0 1 1),(.bool false),(.sl k5 0 1 1)],[(.bool false),.snil,(.bool false),(.sl k6 0 1 1)],[(.bool false),.snil,(.bool false),(.sl k7 0 1 1)]]),
 (k9,.arr 1 [[(.int .u32 1)]]),
 (k10,.arr 1 [[(.int .u32 1)]]),
 (k11,.arr 1 [[(.int .u32 1)]]),
 (k12,.arr 1 [[(.int .u32 1)]]),
 (k13,.arr 4 [[(.bool false),(.sl k9 0 1 1),(.bool false),(.sl k10 0 1 1)],[(.bool false),.snil,(.bool false),(.sl k11 0 1 1)],[(.bool false),.snil,(.bool false),(.sl k12 0 1 1)]]),
 (k14,.arr 1 [[(.int .u32 1)]]),
 (k15,.arr 1 [[(.int .u32 1)]]),
 (k16,.arr 1 [[(.int .u32 1)]]),
 (k17,.arr 4 [[(.bool false),.snil,(.bool false),(.sl k14 0 1 1)],[(.bool false),.snil,(.bool false),(.sl k15 0 1 1)],[(.bool false),.snil,(.bool false),(.sl k16 0 1 1)]]),
 (k18,.arr 1 [[(.int .u32 1)]]),
 (k19,.arr 1 [[(.int .u32 1)]]),
 (k20,.arr 1 [[(.int .u32 1)],[(.int .u32 0)]]),
 (k21,.arr 1 [[(.int .u32 1)]]),
 (k22,.arr 4 [[(.bool false),.snil,(.bool false),(.sl k18 0 1 1)],[(.bool false),.snil,(.bool false),(.sl k19 0 1 1)],[(.bool false),(.sl k20 0 1 2),(.bool false),(.sl k21 0 1 1)]]),
 (k23,.arr 1 [[(.int .u32 1)]]),
 (k24,.arr 1 [[(.int .u32 1)]]),
 (k25,.arr 1 [[(.int .u32 1)]]),
 (k26,.arr 1 [[(.int .u32 1)],[(.int .u32 0)]]),
 (k27,.arr 1 [[(.int .u32 1)]]),
 (k28,.arr 4 [[(.bool false),.snil,(.bool false),(.sl k23 0 1 1)],[(.bool true),(.sl k24 0 1 1),(.bool false),(.sl k25 0 1 1)],[(.bool false),(.sl k26 0 1 2),(.bool false),(.sl k27 0 1 1)]]),
 (k29,.arr 1 [[(.int .u32 1)]]),
 (k30,.arr 1 [[(.int .u32 1)]]),
 (k31,.arr 1 [[(.int .u32 1)]]),
 (k32,.arr 1 [[(.int .u32 1)]]),
 (k33,.arr 4 [[(.bool false),.snil,(.bool false),(.sl k29 0 1 1)],[(.bool true),(.sl k30 0 1 1),(.bool false),(.sl k31 0 1 1)],[(.bool false),.snil,(.bool false),(.sl k32 0 1 1)]]),
 (k34,.arr 1 [[(.int .u32 1)]]),
 (k35,.arr 1 [[(.int .u32 1)]]),
 (k36,.arr 1 [[(.int .u32 1)]]),
 (k37,.arr 1 [[(.int .u32 1)]]),
 (k38,.arr 4 [[(.bool false),.snil,(.bool false),(.sl k34 0 1 1)],[(.bool false),.snil,(.bool false),(.sl k35 0 1 1)],[(.bool true),(.sl k36 0 1 1),(.bool false),(.sl k37 0 1 1)]]),
 (k39,.arr 1 [[(.int .u32 1)]]),
 (k40,.arr 1 [[(.int .u32 1)]]),
 (k41,.arr 1 [[(.int .u32 1)]]),
 (k42,.arr 1 [[(.int .u32 1)]]),
 (k43,.arr 4 [[(.bool false),.snil,(.bool false),(.sl k39 0 1 1)],[(.bool false),.snil,(.bool false),(.sl k40 0 1 1)],[(.bool true),(.sl k41 0 1 1),(.bool false),(.sl k42 0 1 1)]]),
 (k44,.arr 1 [[(.int .u32 1)]]),
 (k45,.arr 1 [[(.int .u32 1)],[(.int .u32 0)]]),
 (k46,.arr 1 [[(.int .u32 1)]]),
 (k47,.arr 1 [[(.int .u32 1)]]),
 (k48,.arr 1 [[(.int .u32 1)]]),
 (k49,.arr 4 [[(.bool false),.snil,(.bool false),(.sl k44 0 1 1)],[(.bool false),(.sl k45 0 1 2),(.bool false),(.sl k46 0 1 1)],[(.bool true),(.sl k47 0 1 1),(.bool false),(.sl k48 0 1 1)]]),
 (k50,.arr 1 [[(.int .u32 1)]]),
 (k51,.arr 1 [[(.int .u32 1)]]),
 (k52,.arr 1 [[(.int .u32 1)]]),
 (k53,.arr 1 [[(.int .u32 1)]]),
 (k54,.arr 4 [[(.bool false),.snil,(.bool false),(.sl k50 0 1 1)],[(.bool false),(.sl k51 0 1 1),(.bool false),(.sl k52 0 1 1)],[(.bool false),.snil,(.bool false),(.sl k53 0 1 1)]]),
 (k55,.arr 1 [[(.int .u32 1)]]),
 (k56,.arr 1 [[(.int .u32 1)]]),
 (k57,.arr 1 [[(.int .u32 1)]]),
 (k58,.arr 1 [[(.int .u32 1)]]),
 (k59,.arr 4 [[(.bool false),.snil,(.bool false),(.sl k55 0 1 1)],[(.bool false),.snil,(.bool false),(.sl k56 0 1 1)],[(.bool false),(.sl k57 0 1 1),(.bool false),(.sl k58 0 1 1)]]),
 (k60,.arr 1 [[(.int .u32 1)]]),
 (k61,.arr 1 [[(.int .u32 1)]]),
 (k62,.arr 1 [[(.int .u32 1)]]),
 (k63,.arr 4 [[(.bool false),.snil,(.bool false),(.sl k60 0 1 1)],[(.bool false),.snil,(.bool false),(.sl k61 0 1 1)],[(.bool false),.snil,(.bool false),(.sl k62 0 1 1)]]),
 (k64,.arr 1 [[(.sl k8 0 3 3)],[(.sl k13 0 3 3)],[(.sl k17 0 3 3)],[(.sl k22 0 3 3)],[(.sl k28 0 3 3)],[(.sl k33 0 3 3)],[(.sl k38 0 3 3)],[(.sl k43 0 3 3)],[(.sl k49 0 3 3)],[(.sl k54 0 3 3)],[(.sl k59 0 3 3)],[(.sl k63 0 3 3)]]),
 (k65,.arr 5 [[(.int .i64 11),(.int .i64 2),(.int .i64 1),(.sg k3 0 3 1),(.sl k64 0 12 12)]]),
 (k6440,.arr 1 [[(.int .u32 1)]]),
 (k6446,.arr 1 [[(.int .u32 1)]]),
 (k6812,.arr 1 [[(.int .u32 1)]]),
 (k6817,.arr 1 [[(.int .u32 1)]]),
 (k6825,.arr 4 [[(.bool false),.snil,(.bool false),(.sl k6440 0 1 1)],[(.bool false),.snil,(.bool false),(.sl k6446 0 1 1)],[(.bool false),(.sg k6812 0 1 1),(.bool false),(.sg k6817 0 1 1)]])],(.tup [(.agg [(.int .i64 3),(.int .i64 1),(.int .i64 3),(.sg k6825 0 3 4)]),(.int .i64 0)]),some (k66,[(k3,.arr 1 [[(.int .i64 1)],[(.int .i64 9)],[(.int .i64 10)]]),
 (k4,.arr 1 [[(.int .u32 1)]]),
 (k5,.arr 1 [[(.int .u32 1)]]),
 (k6,.arr 1 [[(.int .u32 1)]]),
 (k7,.arr 1 [[(.int .u32 1)]]),
 (k8,.arr 4 [[(.bool true),(.sl k4 0 1 1),(.bool false),(.sl k5 0 1 1)],[(.bool false),.snil,(.bool false),(.sl k6 0 1 1)],[(.bool false),.snil,(.bool false),(.sl k7 0 1 1)]]),
 (k9,.arr 1 [[(.int .u32 1)]]),
 (k10,.arr 1 [[(.int .u32 1)]]),
 (k11,.arr 1 [[(.int .u32 1)]]),
 (k12,.arr 1 [[(.int .u32 1)]]),
 (k13,.arr 4 [[(.bool false),(.sl k9 0 1 1),(.bool false),(.sl k10 0 1 1)],[(.bool false),.snil,(.bool false),(.sl k11 0 1 1)],[(.bool false),.snil,(.bool false),(.sl k12 0 1 1)]]),
 (k14,.arr 1 [[(.int .u32 1)]]),
 (k15,.arr 1 [[(.int .u32 1)]]),
 (k16,.arr 1 [[(.int .u32 1)]]),
 (k17,.arr 4 [[(.bool false),.snil,(.bool false),(.sl k14 0 1 1)],[(.bool false),.snil,(.bool false),(.sl k15 0 1 1)],[(.bool false),.snil,(.bool false),(.sl k16 0 1 1)]]),
 (k18,.arr 1 [[(.int .u32 1)]]),
 (k19,.arr 1 [[(.int .u32 1)]]),
 (k20,.arr 1 [[(.int .u32 1)],[(.int .u32 0)]]),
 (k21,.arr 1 [[(.int .u32 1)]]),
 (k22,.arr 4 [[(.bool false),.snil,(.bool false),(.sl k18 0 1 1)],[(.bool false),.snil,(.bool false),(.sl k19 0 1 1)],[(.bool false),(.sl k20 0 1 2),(.bool false),(.sl k21 0 1 1)]]),
 (k23,.arr 1 [[(.int .u32 1)]]),
 (k24,.arr 1 [[(.int .u32 1)]]),
 (k25,.arr 1 [[(.int .u32 1)]]),
 (k26,.arr 1 [[(.int .u32 1)],[(.int .u32 0)]]),
 (k27,.arr 1 [[(.int .u32 1)]]),
 (k28,.arr 4 [[(.bool false),.snil,(.bool false),(.sl k23 0 1 1)],[(.bool true),(.sl k24 0 1 1),(.bool false),(.sl k25 0 1 1)],[(.bool false),(.sl k26 0 1 2),(.bool false),(.sl k27 0 1 1)]]),
 (k29,.arr 1 [[(.int .u32 1)]]),
 (k30,.arr 1 [[(.int .u32 1)]]),
 (k31,.arr 1 [[(.int .u32 1)]]),
 (k32,.arr 1 [[(.int .u32 1)]]),
 (k33,.arr 4 [[(.bool false),.snil,(.bool false),(.sl k29 0 1 1)],[(.bool true),(.sl k30 0 1 1),(.bool false),(.sl k31 0 1 1)],[(.bool false),.snil,(.bool false),(.sl k32 0 1 1)]]),
 (k34,.arr 1 [[(.int .u32 1)]]),
 (k35,.arr 1 [[(.int .u32 1)]]),
 (k36,.arr 1 [[(.int .u32 1)]]),
 (k37,.arr 1 [[(.int .u32 1)]]),
 (k38,.arr 4 [[(.bool false),.snil,(.bool false),(.sl k34 0 1 1)],[(.bool false),.snil,(.bool false),(.sl k35 0 1 1)],[(.bool true),(.sl k36 0 1 1),(.bool false),(.sl k37 0 1 1)]]),
 (k39,.arr 1 [[(.int .u32 1)]]),
 (k40,.arr 1 [[(.int .u32 1)]]),
 (k41,.arr 1 [[(.int .u32 1)]]),
 (k42,.arr 1 [[(.int .u32 1)]]),
 (k43,.arr 4 [[(.bool false),.snil,(.bool false),(.sl k39 0 1 1)],[(.bool false),.snil,(.bool false),(.sl k40 0 1 1)],[(.bool true),(.sl k41 0 1 1),(.bool false),(.sl k42 0 1 1)]]),
 (k44,.arr 1 [[(.int .u32 1)]]),
 (k45,.arr 1 [[(.int .u32 1)],[(.int .u32 0)]]),
 (k46,.arr 1 [[(.int .u32 1)]]),
 (k47,.arr 1 [[(.int .u32 1)]]),
 (k48,.arr 1 [[(.int .u32 1)]]),
 (k49,.arr 4 [[(.bool false),.snil,(.bool false),(.sl k44 0 1 1)],[(.bool false),(.sl k45 0 1 2),(.bool false),(.sl k46 0 1 1)],[(.bool true),(.sl k47 0 1 1),(.bool false),(.sl k48 0 1 1)]]),
 (k50,.arr 1 [[(.int .u32 1)]]),
 (k51,.arr 1 [[(.int .u32 1)]]),
 (k52,.arr 1 [[(.int .u32 1)]]),
 (k53,.arr 1 [[(.int .u32 1)]]),
 (k54,.arr 4 [[(.bool false),.snil,(.bool false),(.sl k50 0 1 1)],[(.bool false),(.sl k51 0 1 1),(.bool false),(.sl k52 0 1 1)],[(.bool false),.snil,(.bool false),(.sl k53 0 1 1)]]),
 (k55,.arr 1 [[(.int .u32 1)]]),
 (k56,.arr 1 [[(.int .u32 1)]]),
 (k57,.arr 1 [[(.int .u32 1)]]),
 (k58,.arr 1 [[(.int .u32 1)]]),
 (k59,.arr 4 [[(.bool false),.snil,(.bool false),(.sl k55 0 1 1)],[(.bool false),.snil,(.bool false),(.sl k56 0 1 1)],[(.bool false),(.sl k57 0 1 1),(.bool false),(.sl k58 0 1 1)]]),
 (k60,.arr 1 [[(.int .u32 1)]]),
 (k61,.arr 1 [[(.int .u32 1)]]),
 (k62,.arr 1 [[(.int .u32 1)]]),
 (k63,.arr 4 [[(.bool false),.snil,(.bool false),(.sl k60 0 1 1)],[(.bool false),.snil,(.bool false),(.sl k61 0 1 1)],[(.bool false),.snil,(.bool false),(.sl k62 0 1 1)]]),
 (k64,.arr 1 [[(.sl k8 0 3 3)],[(.sl k13 0 3 3)],[(.sl k17 0 3 3)],[(.sl k22 0 3 3)],[(.sl k28 0 3 3)],[(.sl k33 0 3 3)],[(.sl k38 0 3 3)],[(.sl k43 0 3 3)],[(.sl k49 0 3 3)],[(.sl k54 0 3 3)],[(.sl k59 0 3 3)],[(.sl k63 0 3 3)]]),
 (k65,.arr 5 [[(.int .i64 11),(.int .i64 2),(.int .i64 1),(.sg k3 0 3 1),(.sl k64 0 12 12)]])],k6827)⟩
end X64
namespace X66
def k11119 : Pth := (.s .d7 (.s .d5 (.s .d5 (.s .d5 (.s .d2 .e)))))
def k17903 : Pth := (.s .d7 (.s .d5 (.s .d7 (.s .d2 (.s .d4 .e)))))
def k10304 : Pth := (.s .d0 (.s .d0 (.s .d1 (.s .d4 (.s .d2 .e)))))
def k10326 : Pth := (.s .d6 (.s .d2 (.s .d1 (.s .d4 (.s .d2 .e)))))
def k10313 : Pth := (.s .d1 (.s .d1 (.s .d1 (.s .d4 (.s .d2 .e)))))
def k9914 : Pth := (.s .d2 (.s .d7 (.s .d2 (.s .d3 (.s .d2 .e)))))
def k9931 : Pth := (.s .d3 (.s .d1 (.s .d3 (.s .d3 (.s .d2 .e)))))
def k9928 : Pth := (.s .d0 (.s .d1 (.s .d3 (.s .d3 (.s .d2 .e)))))
def k6828 : Pth := (.s .d4 (.s .d5 (.s .d2 (.s .d5 (.s .d1 .e)))))
def k9934 : Pth := (.s .d6 (.s .d1 (.s .d3 (.s .d3 (.s .d2 .e)))))
def k9852 : Pth := (.s .d4 (.s .d7 (.s .d1 (.s .d3 (.s .d2 .e)))))
def k6825 : Pth := (.s .d1 (.s .d5 (.s .d2 (.s .d5 (.s .d1 .e)))))
def k6817 : Pth := (.s .d1 (.s .d4 (.s .d2 (.s .d5 (.s .d1 .e)))))
def k6812 : Pth := (.s .d4 (.s .d3 (.s .d2 (.s .d5 (.s .d1 .e)))))
def k6446 : Pth := (.s .d6 (.s .d5 (.s .d4 (.s .d4 (.s .d1 .e)))))
def k6440 : Pth := (.s .d0 (.s .d5 (.s .d4 (.s .d4 (.s .d1 .e)))))
def k65 : Pth := (.s .d1 (.s .d0 (.s .d1 .e)))
def k64 : Pth := (.s .d0 (.s .d0 (.s .d1 .e)))
def k63 : Pth := (.s .d7 (.s .d7 .e))
def k62 : Pth := (.s .d6 (.s .d7 .e))
def k61 : Pth := (.s .d5 (.s .d7 .e))
def k60 : Pth := (.s .d4 (.s .d7 .e))
def k59 : Pth := (.s .d3 (.s .d7 .e))
def k58 : Pth := (.s .d2 (.s .d7 .e))
def k57 : Pth := (.s .d1 (.s .d7 .e))
def k56 : Pth := (.s .d0 (.s .d7 .e))
def k55 : Pth := (.s .d7 (.s .d6 .e))
def k54 : Pth := (.s .d6 (.s .d6 .e))
def k53 : Pth := (.s .d5 (.s .d6 .e))
def k52 : Pth := (.s .d4 (.s .d6 .e))
def k51 : Pth := (.s .d3 (.s .d6 .e))
def k50 : Pth := (.s .d2 (.s .d6 .e))
def k49 : Pth := (.s .d1 (.s .d6 .e))
def k48 : Pth := (.s .d0 (.s .d6 .e))
def k47 : Pth := (.s .d7 (.s .d5 .e))
def k46 : Pth := (.s .d6 (.s .d5 .e))
def k45 : Pth := (.s .d5 (.s .d5 .e))
def k44 : Pth := (.s .d4 (.s .d5 .e))
def k43 : Pth := (.s .d3 (.s .d5 .e))
def k42 : Pth := (.s .d2 (.s .d5 .e))
def k41 : Pth := (.s .d1 (.s .d5 .e))
def k40 : Pth := (.s .d0 (.s .d5 .e))
def k39 : Pth := (.s .d7 (.s .d4 .e))
def k38 : Pth := (.s .d6 (.s .d4 .e))
def k37 : Pth := (.s .d5 (.s .d4 .e))
def k36 : Pth := (.s .d4 (.s .d4 .e))
def k35 : Pth := (.s .d3 (.s .d4 .e))
def k34 : Pth := (.s .d2 (.s .d4 .e))
def k33 : Pth := (.s .d1 (.s .d4 .e))
def k32 : Pth := (.s .d0 (.s .d4 .e))
def k31 : Pth := (.s .d7 (.s .d3 .e))
def k30 : Pth := (.s .d6 (.s .d3 .e))
def k29 : Pth := (.s .d5 (.s .d3 .e))
def k28 : Pth := (.s .d4 (.s .d3 .e))
def k27 : Pth := (.s .d3 (.s .d3 .e))
def k26 : Pth := (.s .d2 (.s .d3 .e))
def k25 : Pth := (.s .d1 (.s .d3 .e))
def k24 : Pth := (.s .d0 (.s .d3 .e))
def k23 : Pth := (.s .d7 (.s .d2 .e))
def k22 : Pth := (.s .d6 (.s .d2 .e))
def k21 : Pth := (.s .d5 (.s .d2 .e))
def k20 : Pth := (.s .d4 (.s .d2 .e))
def k19 : Pth := (.s .d3 (.s .d2 .e))
def k18 : Pth := (.s .d2 (.s .d2 .e))
def k17 : Pth := (.s .d1 (.s .d2 .e))
def k16 : Pth := (.s .d0 (.s .d2 .e))
def k15 : Pth := (.s .d7 (.s .d1 .e))
def k14 : Pth := (.s .d6 (.s .d1 .e))
def k13 : Pth := (.s .d5 (.s .d1 .e))
def k12 : Pth := (.s .d4 (.s .d1 .e))
def k11 : Pth := (.s .d3 (.s .d1 .e))
def k10 : Pth := (.s .d2 (.s .d1 .e))
def k9 : Pth := (.s .d1 (.s .d1 .e))
def k8 : Pth := (.s .d0 (.s .d1 .e))
def k7 : Pth := (.s .d7 .e)
def k6 : Pth := (.s .d6 .e)
def k5 : Pth := (.s .d5 .e)
def k4 : Pth := (.s .d4 .e)
def k3 : Pth := (.s .d3 .e)
def k13639 : Pth := (.s .d7 (.s .d0 (.s .d5 (.s .d2 (.s .d3 .e)))))
def k13645 : Pth := (.s .d5 (.s .d1 (.s .d5 (.s .d2 (.s .d3 .e)))))
def k13634 : Pth := (.s .d2 (.s .d0 (.s .d5 (.s .d2 (.s .d3 .e)))))
def k13475 : Pth := (.s .d3 (.s .d4 (.s .d2 (.s .d2 (.s .d3 .e)))))
def k13491 : Pth := (.s .d3 (.s .d6 (.s .d2 (.s .d2 (.s .d3 .e)))))
def k13584 : Pth := (.s .d0 (.s .d2 (.s .d4 (.s .d2 (.s .d3 .e)))))
def k13589 : Pth := (.s .d5 (.s .d2 (.s .d4 (.s .d2 (.s .d3 .e)))))
def k13596 : Pth := (.s .d4 (.s .d3 (.s .d4 (.s .d2 (.s .d3 .e)))))
def k16218 : Pth := (.s .d2 (.s .d3 (.s .d5 (.s .d7 (.s .d3 .e)))))
def k17890 : Pth := (.s .d2 (.s .d4 (.s .d7 (.s .d2 (.s .d4 .e)))))
def k17895 : Pth := (.s .d7 (.s .d4 (.s .d7 (.s .d2 (.s .d4 .e)))))
def k17880 : Pth := (.s .d0 (.s .d3 (.s .d7 (.s .d2 (.s .d4 .e)))))
def k16391 : Pth := (.s .d7 (.s .d0 (.s .d0 (.s .d0 (.s .d4 .e)))))
def k17902 : Pth := (.s .d6 (.s .d5 (.s .d7 (.s .d2 (.s .d4 .e)))))
def o : Orc := ⟨[(.ptr k6828 0),(.agg [(.int .i64 1),(.int .i64 1),(.sl k9914 0 1 1)]),(.sl k10304 0 2 2)],[(q,64,1,tabL)],[(k3,.arr 1 [[(.int .i64 1)],[(.int .i64 9)],[(.int .i64 10)]]),
 (k4,.arr 1 [[(.int .u32 1)]]),
 (k5,.arr 1 [[(.int .u32 1)]]),
 (k6,.arr 1 [[(.int .u32 1)]]),
 (k7,.arr 1 [[(.int .u32 1)]]),
 (k8,.arr 4 [[(.bool true),(.sl k4 0 1 1),(.bool false),(.sl k5 0 1 1)],[(.bool false),.snil,(.bool false),(.sl k6 0 1 1)],[(.bool false),.snil,(.bool false),(.sl k7 0 1 1)]]),
 (k9,.arr 1 [[(.int .u32 1)]]),
 (k10,.arr 1 [[(.int .u32 1)]]),
 (k11,.arr 1 [[(.int .u32 1)]]),
 (k12,.arr 1 [[(.int .u32 1)]]),
 (k13,.arr 4 [[(.bool false),(.sl k9 0 1 1),(.bool false),(.sl k10 0 1 1)],[(.bool false),.snil,(.bool false),(.sl k11 0 1 1)],[(.bool false),.snil,(.bool false),(.sl k12 0 1 1)]]),
 (k14,.arr 1 [[(.int .u32 1)]]),
 (k15,.arr 1 [[(.int .u32 1)]]),
 (k16,.arr 1 [[(.int .u32 1)]]),
 (k17,.arr 4 [[(.bool false),.snil,(.bool false),(.sl k14 0 1 1)],[(.bool false),.snil,(.bool false),(.sl k15 0 1 1)],[(.bool false),.snil,(.bool false),(.sl k16 0 1 1)]]),
 (k18,.arr 1 [[(.int .u32 1)]]),
 (k19,.arr 1 [[(.int .u32 1)]]),
 (k20,.arr 1 [[(.int .u32 1)],[(.int .u32 0)]]),
 (k21,.arr 1 [[(.int .u32 1)]]),
 (k22,.arr 4 [[(.bool false),.snil,(.bool false),(.sl k18 0 1 1)],[(.bool false),.snil,(.bool false),(.sl k19 0 1 1)],[(.bool false),(.sl k20 0 1 2),(.bool false),(.sl k21 0 1 1)]]),
 (k23,.arr 1 [[(.int .u32 1)]]),
 (k24,.arr 1 [[(.int .u32 1)]]),
 (k25,.arr 1 [[(.int .u32 1)]]),
 (k26,.arr 1 [[(.int .u32 1)],[(.int .u32 0)]]),
 (k27,.arr 1 [[(.int .u32 1)]]),
 (k28,.arr 4 [[(.bool false),.snil,(.bool false),(.sl k23 0 1 1)],[(.bool true),(.sl k24 0 1 1),(.bool false),(.sl k25 0 1 1)],[(.bool false),(.sl k26 0 1 2),(.bool false),(.sl k27 0 1 1)]]),
 (k29,.arr 1 [[(.int .u32 1)]]),
 (k30,.arr 1 [[(.int .u32 1)]]),
 (k31,.arr 1 [[(.int .u32 1)]]),
 (k32,.arr 1 [[(.int .u32 1)]]),
 (k33,.arr 4 [[(.bool false),.snil,(.bool false),(.sl k29 0 1 1)],[(.bool true),(.sl k30 0 1 1),(.bool false),(.sl k31 0 1 1)],[(.bool false),.snil,(.bool false),(.sl k32 0 1 1)]]),
 (k34,.arr 1 [[(.int .u32 1)]]),
 (k35,.arr 1 [[(.int .u32 1)]]),
 (k36,.arr 1 [[(.int .u32 1)]]),
 (k37,.arr 1 [[(.int .u32 1)]]),
 (k38,.arr 4 [[(.bool false),.snil,(.bool false),(.sl k34 0 1 1)],[(.bool false),.snil,(.bool false),(.sl k35 0 1 1)],[(.bool true),(.sl k36 0 1 1),(.bool false),(.sl k37 0 1 1)]]),
 (k39,.arr 1 [[(.int .u32 1)]]),
 (k40,.arr 1 [[(.int .u32 1)]]),
 (k41,.arr 1 [[(.int .u32 1)]]),
 (k42,.arr 1 [[(.int .u32 1)]]),
 (k43,.arr 4 [[(.bool false),.snil,(.bool false),(.sl k39 0 1 1)],[(.bool false),.snil,(.bool false),(.sl k40 0 1 1)],[(.bool true),(.sl k41 0 1 1),(.bool false),(.sl k42 0 1 1)]]),
 (k44,.arr 1 [[(.int .u32 1)]]),
 (k45,.arr 1 [[(.int .u32 1)],[(.int .u32 0)]]),
 (k46,.arr 1 [[(.int .u32 1)]]),
 (k47,.arr 1 [[(.int .u32 1)]]),
 (k48,.arr 1 [[(.int .u32 1)]]),
 (k49,.arr 4 [[(.bool false),.snil,(.bool false),(.sl k44 0 1 1)],[(.bool false),(.sl k45 0 1 2),(.bool false),(.sl k46 0 1 1)],[(.bool true),(.sl k47 0 1 1),(.bool false),(.sl k48 0 1 1)]]),
 (k50,.arr 1 [[(.int .u32 1)]]),
 (k51,.arr 1 [[(.int .u32 1)]]),
 (k52,.arr 1 [[(.int .u32 1)]]),
 (k53,.arr 1 [[(.int .u32 1)]]),
 (k54,.arr 4 [[(.bool false),.snil,(.bool false),(.sl k50 0 1 1)],[(.bool false),(.sl k51 0 1 1),(.bool false),(.sl k52 0 1 1)],[(.bool false),.snil,(.bool false),(.sl k53 0 1 1)]]),
 (k55,.arr 1 [[(.int .u32 1)]]),
 (k56,.arr 1 [[(.int .u32 1)]]),
 (k57,.arr 1 [[(.int .u32 1)]]),
 (k58,.arr 1 [[(.int .u32 1)]]),
 (k59,.arr 4 [[(.bool false),.snil,(.bool false),(.sl k55 0 1 1)],[(.bool false),.snil,(.bool false),(.sl k56 0 1 1)],[(.bool false),(.sl k57 0 1 1),(.bool false),(.sl k58 0 1 1)]]),
 (k60,.arr 1 [[(.int .u32 1)]]),
 (k61,.arr 1 [[(.int .u32 1)]]),
 (k62,.arr 1 [[(.int .u32 1)]]),
 (k63,.arr 4 [[(.bool false),.snil,(.bool false),(.sl k60 0 1 1)],[(.bool false),.snil,(.bool false),(.sl k61 0 1 1)],[(.bool false),.snil,(.bool false),(.sl k62 0 1 1)]]),
 (k64,.arr 1 [[(.sl k8 0 3 3)],[(.sl k13 0 3 3)],[(.sl k17 0 3 3)],[(.sl k22 0 3 3)],[(.sl k28 0 3 3)],[(.sl k33 0 3 3)],[(.sl k38 0 3 3)],[(.sl k43 0 3 3)],[(.sl k49 0 3 3)],[(.sl k54 0 3 3)],[(.sl k59 0 3 3)],[(.sl k63 0 3 3)]]),
 (k65,.arr 5 [[(.int .i64 11),(.int .i64 2),(.int .i64 1),(.sg k3 0 3 1),(.sl k64 0 12 12)]]),
 (k6440,.arr 1 [[(.int .u32 1)]]),
 (k6446,.arr 1 [[(.int .u32 1)]]),
 (k6812,.arr 1 [[(.int .u32 1)]]),
 (k6817,.arr 1 [[(.int .u32 1)]]),
 (k6825,.arr 4 [[(.bool false),.snil,(.bool false),(.sl k6440 0 1 1)],[(.bool false),.snil,(.bool false),(.sl k6446 0 1 1)],[(.bool false),(.sg k6812 0 1 1),(.bool false),(.sg k6817 0 1 1)]]),
 (k9852,.arr 1 [[(.int .u32 1)]]),
 (k9934,.arr 2 [[(.bool false),(.sl k9852 0 1 1)]]),
 (k13639,.arr 1 [[(.int .u32 2)]]),
 (k13645,.arr 1 [[(.int .u32 1)]]),
 (k13634,.arr 2 [[(.bool false),(.sg k13639 0 1 1)],[(.bool false),(.sg k13645 0 1 1)]]),
 (k13475,.arr 1 [[(.int .u32 1)]]),
 (k13491,.arr 1 [[(.int .u32 1)]]),
 (k13584,.arr 1 [[(.int .u32 1)]]),
 (k13589,.arr 1 [[(.int .u32 1)]]),
 (k13596,.arr 4 [[(.bool false),.snil,(.bool false),(.sl k13475 0 1 1)],[(.bool false),.snil,(.bool false),(.sl k13491 0 1 1)],[(.bool false),(.sg k13584 0 1 1),(.bool false),(.sg k13589 0 1 1)]]),
 (k16218,.arr 4 []),
 (k17890,.arr 1 [[(.int .u32 1)]]),
 (k17895,.arr 1 [[(.int .u32 1)]]),
 (k17880,.arr 4 [[(.bool false),(.sg k17890 0 1 1),(.bool false),(.sg k17895 0 1 1)]]),
 (k16391,.arr 1 [[(.sl k16218 0 0 0)],[(.sl k17880 0 1 1)]]),
 (k17902,.arr 6 [[(.sl k13634 0 2 2),(.int .i64 3),(.int .i64 1),(.int .i64 3),(.sg k13596 0 3 4),(.sg k16391 1 1 1)]]),
 (k6828,.arr 10 [[(.int .i64 11),(.int .i64 2),(.int .i64 1),(.ptr k65 0),(.int .i64 3),(.int .i64 1),(.int .i64 3),(.sg k6825 0 3 4),(.sg k9934 0 1 2),(.sg k17902 0 1 6)]]),
 (k9928,.arr 1 [[(.int .u32 2)]]),
 (k9931,.arr 1 [[(.int .u32 1)]]),
 (k9914,.arr 4 [[(.bool true),(.sl k9928 0 1 1),(.bool false),(.sl k9931 0 1 1)]]),
 (k10313,.arr 1 [[(.int .u32 2)]]),
 (k10326,.arr 1 [[(.int .u32 1)]]),
 (k10304,.arr 2 [[(.bool false),(.sl k10313 0 1 1)],[(.bool false),(.sl k10326 0 1 1)]])],(.int .i64 0),some (k11119,[(k3,.arr 1 [[(.int .i64 1)],[(.int .i64 9)],[(.int .i64 10)]]),
 (k4,.arr 1 [[(.int .u32 1)]]),
 (k5,.arr 1 [[(.int .u32 1)]]),
 (k6,.arr 1 [[(.int .u32 1)]]),
 (k7,.arr 1 [[(.int .u32 1)]]),
 (k8,.arr 4 [[(.bool true),(.sl k4 0 1 1),(.bool false),(.sl k5 0 1 1)],[(.bool false),.snil,(.bool false),(.sl k6 0 1 1)],[(.bool false),.snil,(.bool false),(.sl k7 0 1 1)]]),
 (k9,.arr 1 [[(.int .u32 1)]]),
 (k10,.arr 1 [[(.int .u32 1)]]),
 (k11,.arr 1 [[(.int .u32 1)]]),
 (k12,.arr 1 [[(.int .u32 1)]]),
 (k13,.arr 4 [[(.bool false),(.sl k9 0 1 1),(.bool false),(.sl k10 0 1 1)],[(.bool false),.snil,(.bool false),(.sl k11 0 1 1)],[(.bool false),.snil,(.bool false),(.sl k12 0 1 1)]]),
 (k14,.arr 1 [[(.int .u32 1)]]),
 (k15,.arr 1 [[(.int .u32 1)]]),
 (k16,.arr 1 [[(.int .u32 1)]]),
 (k17,.arr 4 [[(.bool false),.snil,(.bool false),(.sl k14 0 1 1)],[(.bool false),.snil,(.bool false),(.sl k15 0 1 1)],[(.bool false),.snil,(.bool false),(.sl k16 0 1 1)]]),
 (k18,.arr 1 [[(.int .u32 1)]]),
 (k19,.arr 1 [[(.int .u32 1)]]),
 (k20,.arr 1 [[(.int .u32 1)],[(.int .u32 0)]]),
 (k21,.arr 1 [[(.int .u32 1)]]),
 (k22,.arr 4 [[(.bool false),.snil,(.bool false),(.sl k18 0 1 1)],[(.bool false),.snil,(.bool false),(.sl k19 0 1 1)],[(.bool false),(.sl k20 0 1 2),(.bool false),(.sl k21 0 1 1)]]),
 (k23,.arr 1 [[(.int .u32 1)]]),
 (k24,.arr 1 [[(.int .u32 1)]]),
 (k25,.arr 1 [[(.int .u32 1)]]),
 (k26,.arr 1 [[(.int .u32 1)],[(.int .u32 0)]]),
 (k27,.arr 1 [[(.int .u32 1)]]),
 (k28,.arr 4 [[(.bool false),.snil,(.bool false),(.sl k23 0 1 1)],[(.bool true),(.sl k24 0 1 1),(.bool false),(.sl k25 0 1 1)],[(.bool false),(.sl k26 0 1 2),(.bool false),(.sl k27 0 1 1)]]),
 (k29,.arr 1 [[(.int .u32 1)]]),
 (k30,.arr 1 [[(.int .u32 1)]]),
 (k31,.arr 1 [[(.int .u32 1)]]),
 (k32,.arr 1 [[(.int .u32 1)]]),
 (k33,.arr 4 [[(.bool false),.snil,(.bool false),(.sl k29 0 1 1)],[(.bool true),(.sl k30 0 1 1),(.bool false),(.sl k31 0 1 1)],[(.bool false),.snil,(.bool false),(.sl k32 0 1 1)]]),
 (k34,.arr 1 [[(.int .u32 1)]]),
 (k35,.arr 1 [[(.int .u32 1)]]),
 (k36,.arr 1 [[(.int .u32 1)]]),
 (k37,.arr 1 [[(.int .u32 1)]]),
 (k38,.arr 4 [[(.bool false),.snil,(.bool false),(.sl k34 0 1 1)],[(.bool false),.snil,(.bool false),(.sl k35 0 1 1)],[(.bool true),(.sl k36 0 1 1),(.bool false),(.sl k37 0 1 1)]]),
 (k39,.arr 1 [[(.int .u32 1)]]),
 (k40,.arr 1 [[(.int .u32 1)]]),
 (k41,.arr 1 [[(.int .u32 1)]]),
 (k42,.arr 1 [[(.int .u32 1)]]),
 (k43,.arr 4 [[(.bool false),.snil,(.bool false),(.sl k39 0 1 1)],[(.bool false),.snil,(.bool false),(.sl k40 0 1 1)],[(.bool true),(.sl k41 0 1 1),(.bool false),(.sl k42 0 1 1)]]),
 (k44,.arr 1 [[(.int .u32 1)]]),
 (k45,.arr 1 [[(.int .u32 1)],[(.int .u32 0)]]),
 (k46,.arr 1 [[(.int .u32 1)]]),
 (k47,.arr 1 [[(.int .u32 1)]]),
 (k48,.arr 1 [[(.int .u32 1)]]),
 (k49,.arr 4 [[(.bool false),.snil,(.bool false),(.sl k44 0 1 1)],[(.bool false),(.sl k45 0 1 2),(.bool false),(.sl k46 0 1 1)],[(.bool true),(.sl k47 0 1 1),(.bool false),(.sl k48 0 1 1)]]),
 (k50,.arr 1 [[(.int .u32 1)]]),
 (k51,.arr 1 [[(.int .u32 1)]]),
 (k52,.arr 1 [[(.int .u32 1)]]),
 (k53,.arr 1 [[(.int .u32 1)]]),
 (k54,.arr 4 [[(.bool false),.snil,(.bool false),(.sl k50 0 1 1)],[(.bool false),(.sl k51 0 1 1),(.bool false),(.sl k52 0 1 1)],[(.bool false),.snil,(.bool false),(.sl k53 0 1 1)]]),
 (k55,.arr 1 [[(.int .u32 1)]]),
 (k56,.arr 1 [[(.int .u32 1)]]),
 (k57,.arr 1 [[(.int .u32 1)]]),
 (k58,.arr 1 [[(.int .u32 1)]]),
 (k59,.arr 4 [[(.bool false),.snil,(.bool false),(.sl k55 0 1 1)],[(.bool false),.snil,(.bool false),(.sl k56 0 1 1)],[(.bool false),(.sl k57 0 1 1),(.bool false),(.sl k58 0 1 1)]]),
 (k60,.arr 1 [[(.int .u32 1)]]),
 (k61,.arr 1 [[(.int .u32 1)]]),
 (k62,.arr 1 [[(.int .u32 1)]]),
 (k63,.arr 4 [[(.bool false),.snil,(.bool false),(.sl k60 0 1 1)],[(.bool false),.snil,(.bool false),(.sl k61 0 1 1)],[(.bool false),.snil,(.bool false),(.sl k62 0 1 1)]]),
 (k64,.arr 1 [[(.sl k8 0 3 3)],[(.sl k13 0 3 3)],[(.sl k17 0 3 3)],[(.sl k22 0 3 3)],[(.sl k28 0 3 3)],[(.sl k33 0 3 3)],[(.sl k38 0 3 3)],[(.sl k43 0 3 3)],[(.sl k49 0 3 3)],[(.sl k54 0 3 3)],[(.sl k59 0 3 3)],[(.sl k63 0 3 3)]]),
 (k65,.arr 5 [[(.int .i64 11),(.int .i64 2),(.int .i64 1),(.sg k3 0 3 1),(.sl k64 0 12 12)]]),
 (k6440,.arr 1 [[(.int .u32 1)]]),
 (k6446,.arr 1 [[(.int .u32 1)]]),
 (k6812,.arr 1 [[(.int .u32 1)]]),
 (k6817,.arr 1 [[(.int .u32 1)]]),
 (k6825,.arr 4 [[(.bool false),.snil,(.bool false),(.sl k6440 0 1 1)],[(.bool false),.snil,(.bool false),(.sl k6446 0 1 1)],[(.bool false),(.sg k6812 0 1 1),(.bool false),(.sg k6817 0 1 1)]]),
 (k9852,.arr 1 [[(.int .u32 1)]]),
 (k9934,.arr 2 [[(.bool false),(.sl k9852 0 1 1)]]),
 (k6828,.arr 10 [[(.int .i64 11),(.int .i64 2),(.int .i64 1),(.ptr k65 0),(.int .i64 3),(.int .i64 1),(.int .i64 3),(.sg k6825 0 3 4),(.sg k9934 0 1 2),.snil]]),
 (k9928,.arr 1 [[(.int .u32 2)]]),
 (k9931,.arr 1 [[(.int .u32 1)]]),
 (k9914,.arr 4 [[(.bool true),(.sl k9928 0 1 1),(.bool false),(.sl k9931 0 1 1)]]),
 (k10313,.arr 1 [[(.int .u32 2)]]),
 (k10326,.arr 1 [[(.int .u32 1)]]),
 (k10304,.arr 2 [[(.bool false),(.sl k10313 0 1 1)],[(.bool false),(.sl k10326 0 1 1)]])],k17903)⟩
end X66
namespace N11
def k3 : Pth := (.s .d3 .e)
def k4 : Pth := (.s .d4 .e)
def k5 : Pth := (.s .d5 .e)
def k6 : Pth := (.s .d6 .e)
def k7 : Pth := (.s .d7 .e)
def k8 : Pth := (.s .d0 (.s .d1 .e))
def k9 : Pth := (.s .d1 (.s .d1 .e))
def k10 : Pth := (.s .d2 (.s .d1 .e))
def k11 : Pth := (.s .d3 (.s .d1 .e))
def k12 : Pth := (.s .d4 (.s .d1 .e))
def k13 : Pth := (.s .d5 (.s .d1 .e))
def k14 : Pth := (.s .d6 (.s .d1 .e))
def k15 : Pth := (.s .d7 (.s .d1 .e))
def k16 : Pth := (.s .d0 (.s .d2 .e))
def k17 : Pth := (.s .d1 (.s .d2 .e))
def k18 : Pth := (.s .d2 (.s .d2 .e))
def k19 : Pth := (.s .d3 (.s .d2 .e))
def k20 : Pth := (.s .d4 (.s .d2 .e))
def k21 : Pth := (.s .d5 (.s .d2 .e))
def k22 : Pth := (.s .d6 (.s .d2 .e))
def k23 : Pth := (.s .d7 (.s .d2 .e))
def k24 : Pth := (.s .d0 (.s .d3 .e))
def k25 : Pth := (.s .d1 (.s .d3 .e))
def k26 : Pth := (.s .d2 (.s .d3 .e))
def k27 : Pth := (.s .d3 (.s .d3 .e))
def k28 : Pth := (.s .d4 (.s .d3 .e))
def k29 : Pth := (.s .d5 (.s .d3 .e))
def k30 : Pth := (.s .d6 (.s .d3 .e))
def k31 : Pth := (.s .d7 (.s .d3 .e))
def k32 : Pth := (.s .d0 (.s .d4 .e))
def k33 : Pth := (.s .d1 (.s .d4 .e))
def k34 : Pth := (.s .d2 (.s .d4 .e))
def k35 : Pth := (.s .d3 (.s .d4 .e))
def k36 : Pth := (.s .d4 (.s .d4 .e))
def k37 : Pth := (.s .d5 (.s .d4 .e))
def k38 : Pth := (.s .d6 (.s .d4 .e))
def k39 : Pth := (.s .d7 (.s .d4 .e))
def k40 : Pth := (.s .d0 (.s .d5 .e))
def k41 : Pth := (.s .d1 (.s .d5 .e))
def k42 : Pth := (.s .d2 (.s .d5 .e))
def k43 : Pth := (.s .d3 (.s .d5 .e))
def k44 : Pth := (.s .d4 (.s .d5 .e))
def k45 : Pth := (.s .d5 (.s .d5 .e))
def k46 : Pth := (.s .d6 (.s .d5 .e))
def k47 : Pth := (.s .d7 (.s .d5 .e))
def k48 : Pth := (.s .d0 (.s .d6 .e))
def k49 : Pth := (.s .d1 (.s .d6 .e))
def k50 : Pth := (.s .d2 (.s .d6 .e))
def k51 : Pth := (.s .d3 (.s .d6 .e))
def k52 : Pth := (.s .d4 (.s .d6 .e))
def k53 : Pth := (.s .d5 (.s .d6 .e))
def k54 : Pth := (.s .d6 (.s .d6 .e))
def k55 : Pth := (.s .d7 (.s .d6 .e))
def k56 : Pth := (.s .d0 (.s .d7 .e))
def k57 : Pth := (.s .d1 (.s .d7 .e))
def k58 : Pth := (.s .d2 (.s .d7 .e))
def k59 : Pth := (.s .d3 (.s .d7 .e))
def k60 : Pth := (.s .d4 (.s .d7 .e))
def k61 : Pth := (.s .d5 (.s .d7 .e))
def k62 : Pth := (.s .d6 (.s .d7 .e))
def k63 : Pth := (.s .d7 (.s .d7 .e))
def k64 : Pth := (.s .d0 (.s .d0 (.s .d1 .e)))
def k65 : Pth := (.s .d1 (.s .d0 (.s .d1 .e)))
def k6440 : Pth := (.s .d0 (.s .d5 (.s .d4 (.s .d4 (.s .d1 .e)))))
def k6446 : Pth := (.s .d6 (.s .d5 (.s .d4 (.s .d4 (.s .d1 .e)))))
def k6812 : Pth := (.s .d4 (.s .d3 (.s .d2 (.s .d5 (.s .d1 .e)))))
def k6817 : Pth := (.s .d1 (.s .d4 (.s .d2 (.s .d5 (.s .d1 .e)))))
def k6825 : Pth := (.s .d1 (.s .d5 (.s .d2 (.s .d5 (.s .d1 .e)))))
def k9852 : Pth := (.s .d4 (.s .d7 (.s .d1 (.s .d3 (.s .d2 .e)))))
def k9934 : Pth := (.s .d6 (.s .d1 (.s .d3 (.s .d3 (.s .d2 .e)))))
def k13639 : Pth := (.s .d7 (.s .d0 (.s .d5 (.s .d2 (.s .d3 .e)))))
def k13645 : Pth := (.s .d5 (.s .d1 (.s .d5 (.s .d2 (.s .d3 .e)))))
def k13634 : Pth := (.s .d2 (.s .d0 (.s .d5 (.s .d2 (.s .d3 .e)))))
def k13475 : Pth := (.s .d3 (.s .d4 (.s .d2 (.s .d2 (.s .d3 .e)))))
def k13491 : Pth := (.s .d3 (.s .d6 (.s .d2 (.s .d2 (.s .d3 .e)))))
def k13584 : Pth := (.s .d0 (.s .d2 (.s .d4 (.s .d2 (.s .d3 .e)))))
def k13589 : Pth := (.s .d5 (.s .d2 (.s .d4 (.s .d2 (.s .d3 .e)))))
def k13596 : Pth := (.s .d4 (.s .d3 (.s .d4 (.s .d2 (.s .d3 .e)))))
def k16218 : Pth := (.s .d2 (.s .d3 (.s .d5 (.s .d7 (.s .d3 .e)))))
def k17890 : Pth := (.s .d2 (.s .d4 (.s .d7 (.s .d2 (.s .d4 .e)))))
def k17895 : Pth := (.s .d7 (.s .d4 (.s .d7 (.s .d2 (.s .d4 .e)))))
def k17880 : Pth := (.s .d0 (.s .d3 (.s .d7 (.s .d2 (.s .d4 .e)))))
def k16391 : Pth := (.s .d7 (.s .d0 (.s .d0 (.s .d0 (.s .d4 .e)))))
def k17902 : Pth := (.s .d6 (.s .d5 (.s .d7 (.s .d2 (.s .d4 .e)))))
def k6828 : Pth := (.s .d4 (.s .d5 (.s .d2 (.s .d5 (.s .d1 .e)))))
def o : Orc := ⟨[(.agg [(.int .i64 11),(.int .i64 2),(.int .i64 1)])],[(q,64,1,tabL)],[(k3,.arr 1 [[(.int .i64 1)],[(.int .i64 9)],[(.int .i64 10)]]),
 (k4,.arr 1 [[(.int .u32 1)]]),
 (k5,.arr 1 [[(.int .u32 1)]]),
 (k6,.arr 1 [[(.int .u32 1)]]),
 (k7,.arr 1 [[(.int .u32 1)]]),
 (k8,.arr 4 [[(.bool true),(.sl k4 0 1 1),(.bool false),(.sl k5 0 1 1)],[(.bool false),.snil,(.bool false),(.sl k6 0 1 1)],[(.bool false),.snil,(.bool false),(.sl k7 0 1 1)]]),
 (k9,.arr 1 [[(.int .u32 1)]]),
 (k10,.arr 1 [[(.int .u32 1)]]),
 (k11,.arr 1 [[(.int .u32 1)]]),
 (k12,.arr 1 [[(.int .u32 1)]]),
 (k13,.arr 4 [[(.bool false),(.sl k9 0 1 1),(.bool false),(.sl k10 0 1 1)],[(.bool false),.snil,(.bool false),(.sl k11 0 1 1)],[(.bool false),.snil,(.bool false),(.sl k12 0 1 1)]]),
 (k14,.arr 1 [[(.int .u32 1)]]),
 (k15,.arr 1 [[(.int .u32 1)]]),
 (k16,.arr 1 [[(.int .u32 1)]]),
 (k17,.arr 4 [[(.bool false),.snil,(.bool false),(.sl k14 0 1 1)],[(.bool false),.snil,(.bool false),(.sl k15 0 1 1)],[(.bool false),.snil,(.bool false),(.sl k16 0 1 1)]]),
 (k18,.arr 1 [[(.int .u32 1)]]),
 (k19,.arr 1 [[(.int .u32 1)]]),
 (k20,.arr 1 [[(.int .u32 1)],[(.int .u32 0)]]),
 (k21,.arr 1 [[(.int .u32 1)]]),
 (k22,.arr 4 [[(.bool false),.snil,(.bool false),(.sl k18 0 1 1)],[(.bool false),.snil,(.bool false),(.sl k19 0 1 1)],[(.bool false),(.sl k20 0 1 2),(.bool false),(.sl k21 0 1 1)]]),
 (k23,.arr 1 [[(.int .u32 1)]]),
 (k24,.arr 1 [[(.int .u32 1)]]),
 (k25,.arr 1 [[(.int .u32 1)]]),
 (k26,.arr 1 [[(.int .u32 1)],[(.int .u32 0)]]),
 (k27,.arr 1 [[(.int .u32 1)]]),
 (k28,.arr 4 [[(.bool false),.snil,(.bool false),(.sl k23 0 1 1)],[(.bool true),(.sl k24 0 1 1),(.bool false),(.sl k25 0 1 1)],[(.bool false),(.sl k26 0 1 2),(.bool false),(.sl k27 0 1 1)]]),
 (k29,.arr 1 [[(.int .u32 1)]]),
 (k30,.arr 1 [[(.int .u32 1)]]),
 (k31,.arr 1 [[(.int .u32 1)]]),
 (k32,.arr 1 [[(.int .u32 1)]]),
 (k33,.arr 4 [[(.bool false),.snil,(.bool false),(.sl k29 0 1 1)],[(.bool true),(.sl k30 0 1 1),(.bool false),(.sl k31 0 1 1)],[(.bool false),.snil,(.bool false),(.sl k32 0 1 1)]]),
 (k34,.arr 1 [[(.int .u32 1)]]),
 (k35,.arr 1 [[(.int .u32 1)]]),
 (k36,.arr 1 [[(.int .u32 1)]]),
 (k37,.arr 1 [[(.int .u32 1)]]),
 (k38,.arr 4 [[(.bool false),.snil,(.bool false),(.sl k34 0 1 1)],[(.bool false),.snil,(.bool false),(.sl k35 0 1 1)],[(.bool true),(.sl k36 0 1 1),(.bool false),(.sl k37 0 1 1)]]),
 (k39,.arr 1 [[(.int .u32 1)]]),
 (k40,.arr 1 [[(.int .u32 1)]]),
 (k41,.arr 1 [[(.int .u32 1)]]),
 (k42,.arr 1 [[(.int .u32 1)]]),
 (k43,.arr 4 [[(.bool false),.snil,(.bool false),(.sl k39 0 1 1)],[(.bool false),.snil,(.bool false),(.sl k40 0 1 1)],[(.bool true),(.sl k41 0 1 1),(.bool false),(.sl k42 0 1 1)]]),
 (k44,.arr 1 [[(.int .u32 1)]]),
 (k45,.arr 1 [[(.int .u32 1)],[(.int .u32 0)]]),
 (k46,.arr 1 [[(.int .u32 1)]]),
 (k47,.arr 1 [[(.int .u32 1)]]),
 (k48,.arr 1 [[(.int .u32 1)]]),
 (k49,.arr 4 [[(.bool false),.snil,(.bool false),(.sl k44 0 1 1)],[(.bool false),(.sl k45 0 1 2),(.bool false),(.sl k46 0 1 1)],[(.bool true),(.sl k47 0 1 1),(.bool false),(.sl k48 0 1 1)]]),
 (k50,.arr 1 [[(.int .u32 1)]]),
 (k51,.arr 1 [[(.int .u32 1)]]),
 (k52,.arr 1 [[(.int .u32 1)]]),
 (k53,.arr 1 [[(.int .u32 1)]]),
 (k54,.arr 4 [[(.bool false),.snil,(.bool false),(.sl k50 0 1 1)],[(.bool false),(.sl k51 0 1 1),(.bool false),(.sl k52 0 1 1)],[(.bool false),.snil,(.bool false),(.sl k53 0 1 1)]]),
 (k55,.arr 1 [[(.int .u32 1)]]),
 (k56,.arr 1 [[(.int .u32 1)]]),
 (k57,.arr 1 [[(.int .u32 1)]]),
 (k58,.arr 1 [[(.int .u32 1)]]),
 (k59,.arr 4 [[(.bool false),.snil,(.bool false),(.sl k55 0 1 1)],[(.bool false),.snil,(.bool false),(.sl k56 0 1 1)],[(.bool false),(.sl k57 0 1 1),(.bool false),(.sl k58 0 1 1)]]),
 (k60,.arr 1 [[(.int .u32 1)]]),
 (k61,.arr 1 [[(.int .u32 1)]]),
 (k62,.arr 1 [[(.int .u32 1)]]),
 (k63,.arr 4 [[(.bool false),.snil,(.bool false),(.sl k60 0 1 1)],[(.bool false),.snil,(.bool false),(.sl k61 0 1 1)],[(.bool false),.snil,(.bool false),(.sl k62 0 1 1)]]),
 (k64,.arr 1 [[(.sl k8 0 3 3)],[(.sl k13 0 3 3)],[(.sl k17 0 3 3)],[(.sl k22 0 3 3)],[(.sl k28 0 3 3)],[(.sl k33 0 3 3)],[(.sl k38 0 3 3)],[(.sl k43 0 3 3)],[(.sl k49 0 3 3)],[(.sl k54 0 3 3)],[(.sl k59 0 3 3)],[(.sl k63 0 3 3)]]),
 (k65,.arr 5 [[(.int .i64 11),(.int .i64 2),(.int .i64 1),(.sg k3 0 3 1),(.sl k64 0 12 12)]]),
 (k6440,.arr 1 [[(.int .u32 1)]]),
 (k6446,.arr 1 [[(.int .u32 1)]]),
 (k6812,.arr 1 [[(.int .u32 1)]]),
 (k6817,.arr 1 [[(.int .u32 1)]]),
 (k6825,.arr 4 [[(.bool false),.snil,(.bool false),(.sl k6440 0 1 1)],[(.bool false),.snil,(.bool false),(.sl k6446 0 1 1)],[(.bool false),(.sg k6812 0 1 1),(.bool false),(.sg k6817 0 1 1)]]),
 (k9852,.arr 1 [[(.int .u32 1)]]),
 (k9934,.arr 2 [[(.bool false),(.sl k9852 0 1 1)]]),
 (k13639,.arr 1 [[(.int .u32 2)]]),
 (k13645,.arr 1 [[(.int .u32 1)]]),
 (k13634,.arr 2 [[(.bool false),(.sg k13639 0 1 1)],[(.bool false),(.sg k13645 0 1 1)]]),
 (k13475,.arr 1 [[(.int .u32 1)]]),
 (k13491,.arr 1 [[(.int .u32 1)]]),
 (k13584,.arr 1 [[(.int .u32 1)]]),
 (k13589,.arr 1 [[(.int .u32 1)]]),
 (k13596,.arr 4 [[(.bool false),.snil,(.bool false),(.sl k13475 0 1 1)],[(.bool false),.snil,(.bool false),(.sl k13491 0 1 1)],[(.bool false),(.sg k13584 0 1 1),(.bool false),(.sg k13589 0 1 1)]]),
 (k16218,.arr 4 []),
 (k17890,.arr 1 [[(.int .u32 1)]]),
 (k17895,.arr 1 [[(.int .u32 1)]]),
 (k17880,.arr 4 [[(.bool false),(.sg k17890 0 1 1),(.bool false),(.sg k17895 0 1 1)]]),
 (k16391,.arr 1 [[(.sl k16218 0 0 0)],[(.sl k17880 0 1 1)]]),
 (k17902,.arr 6 [[(.sl k13634 0 2 2),(.int .i64 3),(.int .i64 1),(.int .i64 3),(.sg k13596 0 3 4),(.sg k16391 1 1 1)]]),
 (k6828,.arr 10 [[(.int .i64 11),(.int .i64 2),(.int .i64 1),(.ptr k65 0),(.int .i64 3),(.int .i64 1),(.int .i64 3),(.sg k6825 0 3 4),(.sg k9934 0 1 2),(.sg k17902 0 1 6)]])],(.tup [(.ptr k6828 0),(.int .i64 0)]),none⟩
end N11
namespace X35
def k4595 : Pth := (.s .d3 (.s .d6 (.s .d7 (.s .d0 (.s .d1 .e)))))
def k9879 : Pth := (.s .d7 (.s .d2 (.s .d2 (.s .d3 (.s .d2 .e)))))
def k87 : Pth := (.s .d7 (.s .d2 (.s .d1 .e)))
def k86 : Pth := (.s .d6 (.s .d2 (.s .d1 .e)))
def k85 : Pth := (.s .d5 (.s .d2 (.s .d1 .e)))
def k84 : Pth := (.s .d4 (.s .d2 (.s .d1 .e)))
def k83 : Pth := (.s .d3 (.s .d2 (.s .d1 .e)))
def k82 : Pth := (.s .d2 (.s .d2 (.s .d1 .e)))
def k81 : Pth := (.s .d1 (.s .d2 (.s .d1 .e)))
def k80 : Pth := (.s .d0 (.s .d2 (.s .d1 .e)))
def k79 : Pth := (.s .d7 (.s .d1 (.s .d1 .e)))
def k78 : Pth := (.s .d6 (.s .d1 (.s .d1 .e)))
def k77 : Pth := (.s .d5 (.s .d1 (.s .d1 .e)))
def k76 : Pth := (.s .d4 (.s .d1 (.s .d1 .e)))
def k75 : Pth := (.s .d3 (.s .d1 (.s .d1 .e)))
def k74 : Pth := (.s .d2 (.s .d1 (.s .d1 .e)))
def k73 : Pth := (.s .d1 (.s .d1 (.s .d1 .e)))
def k72 : Pth := (.s .d0 (.s .d1 (.s .d1 .e)))
def k71 : Pth := (.s .d7 (.s .d0 (.s .d1 .e)))
def k70 : Pth := (.s .d6 (.s .d0 (.s .d1 .e)))
def k69 : Pth := (.s .d5 (.s .d0 (.s .d1 .e)))
def k68 : Pth := (.s .d4 (.s .d0 (.s .d1 .e)))
def k67 : Pth := (.s .d3 (.s .d0 (.s .d1 .e)))
def k66 : Pth := (.s .d2 (.s .d0 (.s .d1 .e)))
def k65 : Pth := (.s .d1 (.s .d0 (.s .d1 .e)))
def k64 : Pth := (.s .d0 (.s .d0 (.s .d1 .e)))
def k63 : Pth := (.s .d7 (.s .d7 .e))
def k62 : Pth := (.s .d6 (.s .d7 .e))
def k61 : Pth := (.s .d5 (.s .d7 .e))
def k60 : Pth := (.s .d4 (.s .d7 .e))
def k59 : Pth := (.s .d3 (.s .d7 .e))
def k58 : Pth := (.s .d2 (.s .d7 .e))
def k57 : Pth := (.s .d1 (.s .d7 .e))
def k56 : Pth := (.s .d0 (.s .d7 .e))
def k55 : Pth := (.s .d7 (.s .d6 .e))
def k54 : Pth := (.s .d6 (.s .d6 .e))
def k53 : Pth := (.s .d5 (.s .d6 .e))
def k52 : Pth := (.s .d4 (.s .d6 .e))
def k51 : Pth := (.s .d3 (.s .d6 .e))
def k50 : Pth := (.s .d2 (.s .d6 .e))
def k49 : Pth := (.s .d1 (.s .d6 .e))
def k48 : Pth := (.s .d0 (.s .d6 .e))
def k47 : Pth := (.s .d7 (.s .d5 .e))
def k46 : Pth := (.s .d6 (.s .d5 .e))
def k45 : Pth := (.s .d5 (.s .d5 .e))
def k44 : Pth := (.s .d4 (.s .d5 .e))
def k43 : Pth := (.s .d3 (.s .d5 .e))
def k42 : Pth := (.s .d2 (.s .d5 .e))
def k41 : Pth := (.s .d1 (.s .d5 .e))
def k40 : Pth := (.s .d0 (.s .d5 .e))
def k39 : Pth := (.s .d7 (.s .d4 .e))
def k38 : Pth := (.s .d6 (.s .d4 .e))
def k37 : Pth := (.s .d5 (.s .d4 .e))
def k36 : Pth := (.s .d4 (.s .d4 .e))
def k35 : Pth := (.s .d3 (.s .d4 .e))
def k34 : Pth := (.s .d2 (.s .d4 .e))
def k33 : Pth := (.s .d1 (.s .d4 .e))
def k32 : Pth := (.s .d0 (.s .d4 .e))
def k31 : Pth := (.s .d7 (.s .d3 .e))
def k30 : Pth := (.s .d6 (.s .d3 .e))
def k29 : Pth := (.s .d5 (.s .d3 .e))
def k28 : Pth := (.s .d4 (.s .d3 .e))
def k27 : Pth := (.s .d3 (.s .d3 .e))
def k26 : Pth := (.s .d2 (.s .d3 .e))
def k25 : Pth := (.s .d1 (.s .d3 .e))
def k24 : Pth := (.s .d0 (.s .d3 .e))
def k23 : Pth := (.s .d7 (.s .d2 .e))
def k22 : Pth := (.s .d6 (.s .d2 .e))
def k21 : Pth := (.s .d5 (.s .d2 .e))
def k20 : Pth := (.s .d4 (.s .d2 .e))
def k19 : Pth := (.s .d3 (.s .d2 .e))
def k18 : Pth := (.s .d2 (.s .d2 .e))
def k17 : Pth := (.s .d1 (.s .d2 .e))
def k16 : Pth := (.s .d0 (.s .d2 .e))
def k15 : Pth := (.s .d7 (.s .d1 .e))
def k14 : Pth := (.s .d6 (.s .d1 .e))
def k13 : Pth := (.s .d5 (.s .d1 .e))
def k12 : Pth := (.s .d4 (.s .d1 .e))
def k11 : Pth := (.s .d3 (.s .d1 .e))
def k10 : Pth := (.s .d2 (.s .d1 .e))
def k9 : Pth := (.s .d1 (.s .d1 .e))
def k8 : Pth := (.s .d0 (.s .d1 .e))
def k7 : Pth := (.s .d7 .e)
def k6 : Pth := (.s .d6 .e)
def k5 : Pth := (.s .d5 .e)
def k4 : Pth := (.s .d4 .e)
def k3 : Pth := (.s .d3 .e)
def k9869 : Pth := (.s .d5 (.s .d1 (.s .d2 (.s .d3 (.s .d2 .e)))))
def k9874 : Pth := (.s .d2 (.s .d2 (.s .d2 (.s .d3 (.s .d2 .e)))))
def k9859 : Pth := (.s .d3 (.s .d0 (.s .d2 (.s .d3 (.s .d2 .e)))))
def k9878 : Pth := (.s .d6 (.s .d2 (.s .d2 (.s .d3 (.s .d2 .e)))))
def o : Orc := ⟨[(.ptr k87 0),(.agg [(.sl k75 0 2 2),(.int .i64 3),(.int .i64 1),(.int .i64 3),(.sg k80 0 3 4),(.sg k85 1 1 1)]),(.int .i64 3),(.int .i64 1)],[(q,64,1,tabL)],[(k3,.arr 1 [[(.int .i64 1)],[(.int .i64 9)],[(.int .i64 10)]]),
 (k4,.arr 1 [[(.int .u32 1)]]),
 (k5,.arr 1 [[(.int .u32 1)]]),
 (k6,.arr 1 [[(.int .u32 1)]]),
 (k7,.arr 1 [[(.int .u32 1)]]),
 (k8,.arr 4 [[(.bool true),(.sl k4 0 1 1),(.bool false),(.sl k5 0 1 1)],[(.bool false),.snil,(.bool false),(.sl k6 0 1 1)],[(.bool false),.snil,(.bool false),(.sl k7 0 1 1)]]),
 (k9,.arr 1 [[(.int .u32 1)]]),
 (k10,.arr 1 [[(.int .u32 1)]]),
 (k11,.arr 1 [[(.int .u32 1)]]),
 (k12,.arr 1 [[(.int .u32 1)]]),
 (k13,.arr 4 [[(.bool false),(.sl k9 0 1 1),(.bool false),(.sl k10 0 1 1)],[(.bool false),.snil,(.bool false),(.sl k11 0 1 1)],[(.bool false),.snil,(.bool false),(.sl k12 0 1 1)]]),
 (k14,.arr 1 [[(.int .u32 1)]]),
 (k15,.arr 1 [[(.int .u32 1)]]),
 (k16,.arr 1 [[(.int .u32 1)]]),
 (k17,.arr 4 [[(.bool false),.snil,(.bool false),(.sl k14 0 1 1)],[(.bool false),.snil,(.bool false),(.sl k15 0 1 1)],[(.bool false),.snil,(.bool false),(.sl k16 0 1 1)]]),
 (k18,.arr 1 [[(.int .u32 1)]]),
 (k19,.arr 1 [[(.int .u32 1)]]),
 (k20,.arr 1 [[(.int .u32 1)],[(.int .u32 0)]]),
 (k21,.arr 1 [[(.int .u32 1)]]),
 (k22,.arr 4 [[(.bool false),.snil,(.bool false),(.sl k18 0 1 1)],[(.bool false),.snil,(.bool false),(.sl k19 0 1 1)],[(.bool false),(.sl k20 0 1 2),(.bool false),(.sl k21 0 1 1)]]),
 (k23,.arr 1 [[(.int .u32 1)]]),
 (k24,.arr 1 [[(.int .u32 1)]]),
 (k25,.arr 1 [[(.int .u32 1)]]),
 (k26,.arr 1 [[(.int .u32 1)],[(.int .u32 0)]]),
 (k27,.arr 1 [[(.int .u32 1)]]),
 (k28,.arr 4 [[(.bool false),.snil,(.bool false),(.sl k23 0 1 1)],[(.bool true),(.sl k24 0 1 1),(.bool false),(.sl k25 0 1 1)],[(.bool false),(.sl k26 0 1 2),(.bool false),(.sl k27 0 1 1)]]),
 (k29,.arr 1 [[(.int .u32 1)]]),
 (k30,.arr 1 [[(.int .u32 1)]]),
 (k31,.arr 1 [[(.int .u32 1)]]),
 (k32,.arr 1 [[(.int .u32 1)]]),
 (k33,.arr 4 [[(.bool false),.snil,(.bool false),(.sl k29 0 1 1)],[(.bool true),(.sl k30 0 1 1),(.bool false),(.sl k31 0 1 1)],[(.bool false),.snil,(.bool false),(.sl k32 0 1 1)]]),
 (k34,.arr 1 [[(.int .u32 1)]]),
 (k35,.arr 1 [[(.int .u32 1)]]),
 (k36,.arr 1 [[(.int .u32 1)]]),
 (k37,.arr 1 [[(.int .u32 1)]]),
 (k38,.arr 4 [[(.bool false),.snil,(.bool false),(.sl k34 0 1 1)],[(.bool false),.snil,(.bool false),(.sl k35 0 1 1)],[(.bool true),(.sl k36 0 1 1),(.bool false),(.sl k37 0 1 1)]]),
 (k39,.arr 1 [[(.int .u32 1)]]),
 (k40,.arr 1 [[(.int .u32 1)]]),
 (k41,.arr 1 [[(.int .u32 1)]]),
 (k42,.arr 1 [[(.int .u32 1)]]),
 (k43,.arr 4 [[(.bool false),.snil,(.bool false),(.sl k39 0 1 1)],[(.bool false),.snil,(.bool false),(.sl k40 0 1 1)],[(.bool true),(.sl k41 0 1 1),(.bool false),(.sl k42 0 1 1)]]),
 (k44,.arr 1 [[(.int .u32 1)]]),
 (k45,.arr 1 [[(.int .u32 1)],[(.int .u32 0)]]),
 (k46,.arr 1 [[(.int .u32 1)]]),
 (k47,.arr 1 [[(.int .u32 1)]]),
 (k48,.arr 1 [[(.int .u32 1)]]),
 (k49,.arr 4 [[(.bool false),.snil,(.bool false),(.sl k44 0 1 1)],[(.bool false),(.sl k45 0 1 2),(.bool false),(.sl k46 0 1 1)],[(.bool true),(.sl k47 0 1 1),(.bool false),(.sl k48 0 1 1)]]),
 (k50,.arr 1 [[(.int .u32 1)]]),
 (k51,.arr 1 [[(.int .u32 1)]]),
 (k52,.arr 1 [[(.int .u32 1)]]),
 (k53,.arr 1 [[(.int .u32 1)]]),
 (k54,.arr 4 [[(.bool false),.snil,(.bool false),(.sl k50 0 1 1)],[(.bool false),(.sl k51 0 1 1),(.bool false),(.sl k52 0 1 1)],[(.bool false),.snil,(.bool false),(.sl k53 0 1 1)]]),
 (k55,.arr 1 [[(.int .u32 1)]]),
 (k56,.arr 1 [[(.int .u32 1)]]),
 (k57,.arr 1 [[(.int .u32 1)]]),
 (k58,.arr 1 [[(.int .u32 1)]]),
 (k59,.arr 4 [[(.bool false),.snil,(.bool false),(.sl k55 0 1 1)],[(.bool false),.snil,(.bool false),(.sl k56 0 1 1)],[(.bool false),(.sl k57 0 1 1),(.bool false),(.sl k58 0 1 1)]]),
 (k60,.arr 1 [[(.int .u32 1)]]),
 (k61,.arr 1 [[(.int .u32 1)]]),
 (k62,.arr 1 [[(.int .u32 1)]]),
 (k63,.arr 4 [[(.bool false),.snil,(.bool false),(.sl k60 0 1 1)],[(.bool false),.snil,(.bool false),(.sl k61 0 1 1)],[(.bool false),.snil,(.bool false),(.sl k62 0 1 1)]]),
 (k64,.arr 1 [[(.sl k8 0 3 3)],[(.sl k13 0 3 3)],[(.sl k17 0 3 3)],[(.sl k22 0 3 3)],[(.sl k28 0 3 3)],[(.sl k33 0 3 3)],[(.sl k38 0 3 3)],[(.sl k43 0 3 3)],[(.sl k49 0 3 3)],[(.sl k54 0 3 3)],[(.sl k59 0 3 3)],[(.sl k63 0 3 3)]]),
 (k65,.arr 5 [[(.int .i64 11),(.int .i64 2),(.int .i64 1),(.sg k3 0 3 1),(.sl k64 0 12 12)]]),
 (k66,.arr 1 [[(.int .u32 1)]]),
 (k67,.arr 1 [[(.int .u32 1)]]),
 (k68,.arr 1 [[(.int .u32 1)]]),
 (k69,.arr 1 [[(.int .u32 1)]]),
 (k70,.arr 4 [[(.bool false),.snil,(.bool false),(.sl k66 0 1 1)],[(.bool false),.snil,(.bool false),(.sl k67 0 1 1)],[(.bool false),(.sg k68 0 1 1),(.bool false),(.sg k69 0 1 1)]]),
 (k71,.arr 1 [[(.int .u32 1)]]),
 (k72,.arr 2 [[(.bool false),(.sl k71 0 1 1)]]),
 (k73,.arr 1 [[(.int .u32 2)]]),
 (k74,.arr 1 [[(.int .u32 1)]]),
 (k75,.arr 2 [[(.bool false),(.sg k73 0 1 1)],[(.bool false),(.sg k74 0 1 1)]]),
 (k76,.arr 1 [[(.int .u32 1)]]),
 (k77,.arr 1 [[(.int .u32 1)]]),
 (k78,.arr 1 [[(.int .u32 1)]]),
 (k79,.arr 1 [[(.int .u32 1)]]),
 (k80,.arr 4 [[(.bool false),.snil,(.bool false),(.sl k76 0 1 1)],[(.bool false),.snil,(.bool false),(.sl k77 0 1 1)],[(.bool false),(.sg k78 0 1 1),(.bool false),(.sg k79 0 1 1)]]),
 (k81,.arr 4 []),
 (k82,.arr 1 [[(.int .u32 1)]]),
 (k83,.arr 1 [[(.int .u32 1)]]),
 (k84,.arr 4 [[(.bool false),(.sg k82 0 1 1),(.bool false),(.sg k83 0 1 1)]]),
 (k85,.arr 1 [[(.sl k81 0 0 0)],[(.sl k84 0 1 1)]]),
 (k86,.arr 6 [[(.sl k75 0 2 2),(.int .i64 3),(.int .i64 1),(.int .i64 3),(.sg k80 0 3 4),(.sg k85 1 1 1)]]),
 (k87,.arr 10 [[(.int .i64 11),(.int .i64 2),(.int .i64 1),(.ptr k65 0),(.int .i64 3),(.int .i64 1),(.int .i64 3),(.sg k70 0 3 4),(.sg k72 0 1 2),(.sg k86 0 1 6)]]),
 (k9869,.arr 1 [[(.int .u32 1)]]),
 (k9874,.arr 1 [[(.int .u32 1)]]),
 (k9859,.arr 4 [[(.bool true),(.sg k9869 0 1 1),(.bool false),(.sg k9874 0 1 1)]]),
 (k9878,.arr 1 [[(.sl k9859 0 1 1)]])],(.tup [(.sg k9878 0 1 1),(.int .i64 0)]),some (k4595,[(k3,.arr 1 [[(.int .i64 1)],[(.int .i64 9)],[(.int .i64 10)]]),
 (k4,.arr 1 [[(.int .u32 1)]]),
 (k5,.arr 1 [[(.int .u32 1)]]),
 (k6,.arr 1 [[(.int .u32 1)]]),
 (k7,.arr 1 [[(.int .u32 1)]]),
 (k8,.arr 4 [[(.bool true),(.sl k4 0 1 1),(.bool false),(.sl k5 0 1 1)],[(.bool false),.snil,(.bool false),(.sl k6 0 1 1)],[(.bool false),.snil,(.bool false),(.sl k7 0 1 1)]]),
 (k9,.arr 1 [[(.int .u32 1)]]),
 (k10,.arr 1 [[(.int .u32 1)]]),
 (k11,.arr 1 [[(.int .u32 1)]]),
 (k12,.arr 1 [[(.int .u32 1)]]),
 (k13,.arr 4 [[(.bool false),(.sl k9 0 1 1),(.bool false),(.sl k10 0 1 1)],[(.bool false),.snil,(.bool false),(.sl k11 0 1 1)],[(.bool false),.snil,(.bool false),(.sl k12 0 1 1)]]),
 (k14,.arr 1 [[(.int .u32 1)]]),
 (k15,.arr 1 [[(.int .u32 1)]]),
 (k16,.arr 1 [[(.int .u32 1)]]),
 (k17,.arr 4 [[(.bool false),.snil,(.bool false),(.sl k14 0 1 1)],[(.bool false),.snil,(.bool false),(.sl k15 0 1 1)],[(.bool false),.snil,(.bool false),(.sl k16 0 1 1)]]),
 (k18,.arr 1 [[(.int .u32 1)]]),
 (k19,.arr 1 [[(.int .u32 1)]]),
 (k20,.arr 1 [[(.int .u32 1)],[(.int .u32 0)]]),
 (k21,.arr 1 [[(.int .u32 1)]]),
 (k22,.arr 4 [[(.bool false),.snil,(.bool false),(.sl k18 0 1 1)],[(.bool false),.snil,(.bool false),(.sl k19 0 1 1)],[(.bool false),(.sl k20 0 1 2),(.bool false),(.sl k21 0 1 1)]]),
 (k23,.arr 1 [[(.int .u32 1)]]),
 (k24,.arr 1 [[(.int .u32 1)]]),
 (k25,.arr 1 [[(.int .u32 1)]]),
 (k26,.arr 1 [[(.int .u32 1)],[(.int .u32 0)]]),
 (k27,.arr 1 [[(.int .u32 1)]]),
 (k28,.arr 4 [[(.bool false),.snil,(.bool false),(.sl k23 0 1 1)],[(.bool true),(.sl k24 0 1 1),(.bool false),(.sl k25 0 1 1)],[(.bool false),(.sl k26 0 1 2),(.bool false),(.sl k27 0 1 1)]]),
 (k29,.arr 1 [[(.int .u32 1)]]),
 (k30,.arr 1 [[(.int .u32 1)]]),
 (k31,.arr 1 [[(.int .u32 1)]]),
 (k32,.arr 1 [[(.int .u32 1)]]),
 (k33,.arr 4 [[(.bool false),.snil,(.bool false),(.sl k29 0 1 1)],[(.bool true),(.sl k30 0 1 1),(.bool false),(.sl k31 0 1 1)],[(.bool false),.snil,(.bool false),(.sl k32 0 1 1)]]),
 (k34,.arr 1 [[(.int .u32 1)]]),
 (k35,.arr 1 [[(.int .u32 1)]]),
 (k36,.arr 1 [[(.int .u32 1)]]),
 (k37,.arr 1 [[(.int .u32 1)]]),
 (k38,.arr 4 [[(.bool false),.snil,(.bool false),(.sl k34 0 1 1)],[(.bool false),.snil,(.bool false),(.sl k35 0 1 1)],[(.bool true),(.sl k36 0 1 1),(.bool false),(.sl k37 0 1 1)]]),
 (k39,.arr 1 [[(.int .u32 1)]]),
 (k40,.arr 1 [[(.int .u32 1)]]),
 (k41,.arr 1 [[(.int .u32 1)]]),
 (k42,.arr 1 [[(.int .u32 1)]]),
 (k43,.arr 4 [[(.bool false),.snil,(.bool false),(.sl k39 0 1 1)],[(.bool false),.snil,(.bool false),(.sl k40 0 1 1)],[(.bool true),(.sl k41 0 1 1),(.bool false),(.sl k42 0 1 1)]]),
 (k44,.arr 1 [[(.int .u32 1)]]),
 (k45,.arr 1 [[(.int .u32 1)],[(.int .u32 0)]]),
 (k46,.arr 1 [[(.int .u32 1)]]),
 (k47,.arr 1 [[(.int .u32 1)]]),
 (k48,.arr 1 [[(.int .u32 1)]]),
 (k49,.arr 4 [[(.bool false),.snil,(.bool false),(.sl k44 0 1 1)],[(.bool false),(.sl k45 0 1 2),(.bool false),(.sl k46 0 1 1)],[(.bool true),(.sl k47 0 1 1),(.bool false),(.sl k48 0 1 1)]]),
 (k50,.arr 1 [[(.int .u32 1)]]),
 (k51,.arr 1 [[(.int .u32 1)]]),
 (k52,.arr 1 [[(.int .u32 1)]]),
 (k53,.arr 1 [[(.int .u32 1)]]),
 (k54,.arr 4 [[(.bool false),.snil,(.bool false),(.sl k50 0 1 1)],[(.bool false),(.sl k51 0 1 1),(.bool false),(.sl k52 0 1 1)],[(.bool false),.snil,(.bool false),(.sl k53 0 1 1)]]),
 (k55,.arr 1 [[(.int .u32 1)]]),
 (k56,.arr 1 [[(.int .u32 1)]]),
 (k57,.arr 1 [[(.int .u32 1)]]),
 (k58,.arr 1 [[(.int .u32 1)]]),
 (k59,.arr 4 [[(.bool false),.snil,(.bool false),(.sl k55 0 1 1)],[(.bool false),.snil,(.bool false),(.sl k56 0 1 1)],[(.bool false),(.sl k57 0 1 1),(.bool false),(.sl k58 0 1 1)]]),
 (k60,.arr 1 [[(.int .u32 1)]]),
 (k61,.arr 1 [[(.int .u32 1)]]),
 (k62,.arr 1 [[(.int .u32 1)]]),
 (k63,.arr 4 [[(.bool false),.snil,(.bool false),(.sl k60 0 1 1)],[(.bool false),.snil,(.bool false),(.sl k61 0 1 1)],[(.bool false),.snil,(.bool false),(.sl k62 0 1 1)]]),
 (k64,.arr 1 [[(.sl k8 0 3 3)],[(.sl k13 0 3 3)],[(.sl k17 0 3 3)],[(.sl k22 0 3 3)],[(.sl k28 0 3 3)],[(.sl k33 0 3 3)],[(.sl k38 0 3 3)],[(.sl k43 0 3 3)],[(.sl k49 0 3 3)],[(.sl k54 0 3 3)],[(.sl k59 0 3 3)],[(.sl k63 0 3 3)]]),
 (k65,.arr 5 [[(.int .i64 11),(.int .i64 2),(.int .i64 1),(.sg k3 0 3 1),(.sl k64 0 12 12)]]),
 (k66,.arr 1 [[(.int .u32 1)]]),
 (k67,.arr 1 [[(.int .u32 1)]]),
 (k68,.arr 1 [[(.int .u32 1)]]),
 (k69,.arr 1 [[(.int .u32 1)]]),
 (k70,.arr 4 [[(.bool false),.snil,(.bool false),(.sl k66 0 1 1)],[(.bool false),.snil,(.bool false),(.sl k67 0 1 1)],[(.bool false),(.sg k68 0 1 1),(.bool false),(.sg k69 0 1 1)]]),
 (k71,.arr 1 [[(.int .u32 1)]]),
 (k72,.arr 2 [[(.bool false),(.sl k71 0 1 1)]]),
 (k73,.arr 1 [[(.int .u32 2)]]),
 (k74,.arr 1 [[(.int .u32 1)]]),
 (k75,.arr 2 [[(.bool false),(.sg k73 0 1 1)],[(.bool false),(.sg k74 0 1 1)]]),
 (k76,.arr 1 [[(.int .u32 1)]]),
 (k77,.arr 1 [[(.int .u32 1)]]),
 (k78,.arr 1 [[(.int .u32 1)]]),
 (k79,.arr 1 [[(.int .u32 1)]]),
 (k80,.arr 4 [[(.bool false),.snil,(.bool false),(.sl k76 0 1 1)],[(.bool false),.snil,(.bool false),(.sl k77 0 1 1)],[(.bool false),(.sg k78 0 1 1),(.bool false),(.sg k79 0 1 1)]]),
 (k81,.arr 4 []),
 (k82,.arr 1 [[(.int .u32 1)]]),
 (k83,.arr 1 [[(.int .u32 1)]]),
 (k84,.arr 4 [[(.bool false),(.sg k82 0 1 1),(.bool false),(.sg k83 0 1 1)]]),
 (k85,.arr 1 [[(.sl k81 0 0 0)],[(.sl k84 0 1 1)]]),
 (k86,.arr 6 [[(.sl k75 0 2 2),(.int .i64 3),(.int .i64 1),(.int .i64 3),(.sg k80 0 3 4),(.sg k85 1 1 1)]]),
 (k87,.arr 10 [[(.int .i64 11),(.int .i64 2),(.int .i64 1),(.ptr k65 0),(.int .i64 3),(.int .i64 1),(.int .i64 3),(.sg k70 0 3 4),(.sg k72 0 1 2),(.sg k86 0 1 6)]])],k9879)⟩
end X35
def F1 : T8 CFn := F0.put noFn ⟨c247.params, c247.body, c247.res, [L1.o, L11.o]⟩ (key 247)
def F2 : T8 CFn := F1.put noFn ⟨c171.params, c171.body, c171.res, [E1.o, E11.o]⟩ (key 171)
def F3 : T8 CFn := F2.put noFn ⟨c106.params, c106.body, c106.res, [R11.o]⟩ (key 106)
def F4 : T8 CFn := F3.put noFn ⟨c56.params, c56.body, c56.res, [M11.o]⟩ (key 56)
def F5 : T8 CFn := F4.put noFn ⟨c64.params, c64.body, c64.res, [X64.o]⟩ (key 64)
def F6 : T8 CFn := F5.put noFn ⟨c66.params, c66.body, c66.res, [X66.o]⟩ (key 66)
def F7 : T8 CFn := F6.put noFn ⟨c24.params, c24.body, c24.res, [N11.o]⟩ (key 24)
def F8 : T8 CFn := F7.put noFn ⟨c35.params, c35.body, c35.res, [X35.o]⟩ (key 35)
end Go.Ex.K
