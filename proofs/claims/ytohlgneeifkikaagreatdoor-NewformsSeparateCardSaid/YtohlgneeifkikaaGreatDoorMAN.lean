/- A part of the executor of abstract values, its soundness over the model, and what functions of the program reckon. Conditions: those stated at each theorem. -/
import Derived.KernelRfl
import Derived.Test.YtohlgneeifkikaaGreatDoorMAJ
import Derived.Test.YtohlgneeifkikaaGreatDoorMAK
import Derived.Test.YtohlgneeifkikaaGreatDoorMAL
import Derived.Test.YtohlgneeifkikaaGreatDoorMAM
import Derived.Test.YtohlgneeifkikaaGreatDoorMAD
import Derived.Test.YtohlgneeifkikaaGreatDoorMAG
import Derived.Test.YtohlgneeifkikaaGreatDoorMAH
import Derived.Test.YtohlgneeifkikaaGreatDoorMAI
import Derived.Test.YtohlgneeifkikaaGreatDoorMAC
set_option maxRecDepth 1000000
set_option maxHeartbeats 0
set_option linter.unusedVariables false
noncomputable section
namespace Go.Ex.KD
open Go Go.Proofs
def tabL:List AVal:=[0,1,56,2,57,49,28,3,61,58,42,50,38,29,17,4,62,47,59,36,45,43,51,22,53,39,33,30,24,18,12,5,63,55,48,27,60,41,37,16,46,35,44,21,52,32,23,11,54,26,40,15,34,20,31,10,25,14,19,9,13,8,7,6].map λn=>.int .u8 (.ofNat n)
def H0:AH:=⟨q2,.node (.ro 64 1 tabL .nil) nil8⟩
section
def tabs:List Fe2:=[pr d2,pr d3,pr d4,pr d5,pr d6,pr d7,pr d8,pr d9,pr d10,pr d11,pr d12,pr d13,pr d14,pr d15,pr d16,pr d17,pr d18,pr d19,pr d20,pr d21,pr d22,pr d23,pr d24,pr d25,pr d26,pr d27,pr d28,pr d29,pr d30,pr d31,pr d32,pr d33,pr d34,pr d35,pr d36,pr d37,pr d38,pr d39,pr d40,pr d41,pr d42,pr d43,pr d44,pr d45,pr d46,pr d47,pr d48,pr d49,pr d50,pr d51,pr d52,pr d53,pr d54,pr d55,pr d56,pr d57,pr d58,pr d59,pr d60,pr d61,pr d62,pr d63,pr d64,pr d65,pr d66,pr d67,pr d68,pr d69,pr d70,pr d71,pr d72,pr d73,pr d74,pr d75,pr d76,pr d77,pr d78,pr d79,pr d80,pr d81,pr d82,pr d83,pr d84,pr d85,pr d86,pr d87,pr d88,pr d89,pr d90,pr d91,pr d92,pr d93,pr d94,pr d95,pr d96,pr d97,pr d98,pr d99,pr d100,pr d101,pr d102,pr d103,pr d104,pr d105,pr d106,pr d107,pr d108,pr d109,pr d110,pr d111,pr d112,pr d113,pr d114,pr d115,pr d116,pr d117,pr d118,pr d119,pr d120,pr d121,pr d122,pr d123,pr d124,pr d125,pr d126,pr d127,pr d128,pr d129,pr d130,pr d131,pr d132,pr d133,pr d134,pr d135,pr d136,pr d137,pr d138,pr d139,pr d140,pr d141,pr d142,pr d143,pr d144,pr d145,pr d146,pr d147,pr d148,pr d149,pr d150,pr d151,pr d152,pr d153,pr d154,pr d155,pr d156,pr d157,pr d158,pr d159,pr d160,pr d161,pr d162,pr d163,pr d164,pr d165,pr d166,pr d167,pr d168,pr d169,pr d170,pr d171,pr d172,pr d173,pr d174,pr d175,pr d176,pr d177,pr d178,pr d179,pr d180,pr d181,pr d182,pr d183,pr d184,pr d185,pr d186,pr d187,pr d188,pr d189,pr d190,pr d191,pr d192,pr d193,pr d194,pr d195,pr d196,pr d197,pr d198,pr d199,pr d200,pr d201,pr d202,pr d203,pr d204,pr d205,pr d206,pr d207,pr d208,pr d209,pr d210,pr d211,pr d212,pr d213,pr d214,pr d215,pr d216,pr d217,pr d218,pr d219,pr d220,pr d221,pr d222,pr d223,pr d224,pr d225,pr d226,pr d227,pr d228,pr d229,pr d230,pr d231,pr d232,pr d233,pr d234,pr d235,pr d236,pr d237,pr d238,pr d239,pr d240,pr d241,pr d242,pr d243,pr d244,pr d245,pr d246,pr d247,pr d248,pr d249,pr d250,pr d251,pr d252,pr d258,pr d261,pr d262,pr d263,pr d264,pr d265,pr d266,pr d267,pr d268,pr d269,pr d270,pr d271,pr d272,pr d273,pr d274,pr d275,pr d276,pr d277,pr d278,pr d279,pr d280,pr d281,pr d282,pr d283,pr d284,pr d285,pr d286,pr d287,pr d288,pr d289,pr d290,pr d291,pr d292,pr d293,pr d294,pr d295,pr d296,pr d297,pr d298,pr d306,pr d307,pr d308,pr d309,pr d315,pr d316,pr d317,pr d318,pr d319,pr d320,pr d321,pr d322,pr d323,pr d324,pr d325,pr d326,pr d327,pr d328,pr d329,pr d330,pr d331,pr d332,pr d333,pr d334,pr d335,pr d336,pr d337,pr d338,pr d339,pr d340,pr d341,pr d342,pr d343,pr d344,pr d345,pr d346,pr d347,pr d348,pr d349,pr d351,pr d352,pr d353,pr d354,pr d358,pr d360,pr d361,pr d362,pr d363,pr d364,pr d365,pr d366,pr d367,pr d368,pr d369,pr d370,pr d371,pr d372,pr d373,pr d374,pr d375,pr d376,pr d377,pr d378,pr d379,pr d380,pr d381,pr d382,pr d383,pr d384,pr d385,pr d386,pr d388,pr d389,pr d390,pr d391,pr d392,pr d393,pr d394,pr d395,pr d396,pr d397,pr d398,pr d399,pr d400,pr d401,pr d402,pr d403,pr d404,pr d437]
attribute [local irreducible] d2 d3 d4 d5 d6 d7 d8 d9 d10 d11 d12 d13 d14 d15 d16 d17 d18 d19 d20 d21 d22 d23 d24 d25 d26 d27 d28 d29 d30 d31 d32 d33 d34 d35 d36 d37 d38 d39 d40 d41 d42 d43 d44 d45 d46 d47 d48 d49 d50 d51 d52 d53 d54 d55 d56 d57 d58 d59 d60 d61 d62 d63 d64 d65 d66 d67 d68 d69 d70 d71 d72 d73 d74 d75 d76 d77 d78 d79 d80 d81 d82 d83 d84 d85 d86 d87 d88 d89 d90 d91 d92 d93 d94 d95 d96 d97 d98 d99 d100 d101 d102 d103 d104 d105 d106 d107 d108 d109 d110 d111 d112 d113 d114 d115 d116 d117 d118 d119 d120 d121 d122 d123 d124 d125 d126 d127 d128 d129 d130 d131 d132 d133 d134 d135 d136 d137 d138 d139 d140 d141 d142 d143 d144 d145 d146 d147 d148 d149 d150 d151 d152 d153 d154 d155 d156 d157 d158 d159 d160 d161 d162 d163 d164 d165 d166 d167 d168 d169 d170 d171 d172 d173 d174 d175 d176 d177 d178 d179 d180 d181 d182 d183 d184 d185 d186 d187 d188 d189 d190 d191 d192 d193 d194 d195 d196 d197 d198 d199 d200 d201 d202 d203 d204 d205 d206 d207 d208 d209 d210 d211 d212 d213 d214 d215 d216 d217 d218 d219 d220 d221 d222 d223 d224 d225 d226 d227 d228 d229 d230 d231 d232 d233 d234 d235 d236 d237 d238 d239 d240 d241 d242 d243 d244 d245 d246 d247 d248 d249 d250 d251 d252 d258 d261 d262 d263 d264 d265 d266 d267 d268 d269 d270 d271 d272 d273 d274 d275 d276 d277 d278 d279 d280 d281 d282 d283 d284 d285 d286 d287 d288 d289 d290 d291 d292 d293 d294 d295 d296 d297 d298 d306 d307 d308 d309 d315 d316 d317 d318 d319 d320 d321 d322 d323 d324 d325 d326 d327 d328 d329 d330 d331 d332 d333 d334 d335 d336 d337 d338 d339 d340 d341 d342 d343 d344 d345 d346 d347 d348 d349 d351 d352 d353 d354 d358 d360 d361 d362 d363 d364 d365 d366 d367 d368 d369 d370 d371 d372 d373 d374 d375 d376 d377 d378 d379 d380 d381 d382 d383 d384 d385 d386 d388 d389 d390 d391 d392 d393 d394 d395 d396 d397 d398 d399 d400 d401 d402 d403 d404 d437
def F0e:{T:T8 CFn//putF tabs .nil=T}:=⟨_,by conv=>lhs;reduce⟩
def F0:T8 CFn:=F0e.1
theorem ph{ω:Nat->Value}:TabOk Tryz.prog ω F0:=by unfold F0;rw[<-F0e.2];exact pg _ TabOk.nil
end
end Go.Ex.KD
namespace Go.BI
open Go Go.RowKit Go.Proofs
theorem Num.zf{w:World}{A:Option Addr}{m c n:Nat}{z:Bool}(h:Num w (.slice A m c) n z)(hn:n≠0):z=false:=by
 cases z with
 |false=>rfl
 |true=>obtain⟨A',m',c',e,hd,h1,_⟩:=h.is;cases e;obtain⟨rfl,_⟩:=h1 rfl;have:=hd.pos;obtain⟨b,o,e,_⟩:=hd.cells (by omega);cases e
theorem iP(s t:Bool)(A B:Option Addr)(m c m' c' a b:Nat)(z u:Bool)(w:World)(h:Num w (.slice A m c) a z)(h':Num w (.slice B m' c') b u)(hla:a<18446744073709551616)(hlb:b<18446744073709551616){q:Q}(hq:qOver ⟨s,a,z⟩ ⟨t,b,u⟩=some q):Calls Tryz.prog 124 #[.agg #[.bool s,.slice A m c],.agg #[.bool t,.slice B m' c']] w (MakesQ q w):=by
 unfold qOver at hq;simp only at hq;cases hz:(isZ a||isZ b)with
 |true=>
  rw[hz]at hq;simp only[cond,Option.some.injEq]at hq;rw[<-hq];refine yF s t A B m c m' c' a b z u w h h' ?_;rw[Bool.or_eq_true]at hz;by_cases hb:b=0
  .exact .inl hb
  .rcases hz with e|e
   .exact .inr ⟨hb,Nat.eq_of_beq_eq_true e⟩
   .exact absurd (Nat.eq_of_beq_eq_true e) hb
 |false=>
  rw[hz]at hq;simp only[cond]at hq;rw[Bool.or_eq_false_iff]at hz;have ha:a≠0:=λe=>by subst e;cases hz.1
  have hb:b≠0:=λe=>by subst e;cases hz.2
  have hzf:=h.zf ha;have huf:=h'.zf hb;subst hzf huf;cases t with
  |true=>simp only at hq;cases hq
  |false=>
   simp only at hq;cases h1:Nat.beq b 1 with
   |true=>have e:=Nat.eq_of_beq_eq_true h1;rw[h1]at hq;simp only[Option.some.injEq]at hq;rw[<-hq];exact yG s false A B m c m' c' a b false false w h h' ha e rfl
   |false=>
    have e:b≠1:=λe=>by subst e;cases h1
    rw[h1]at hq;simp only at hq;cases h2:Nat.beq (Nat.gcd a b) 1 with
    |true=>have e2:=Nat.eq_of_beq_eq_true h2;rw[h2]at hq;simp only[Option.some.injEq]at hq;rw[<-hq];exact yH s false A B m c m' c' a b false false w h h' ha (by omega) rfl hla hlb e2
    |false=>
     have e2:Nat.gcd a b≠1:=λe=>by rw[e]at h2;cases h2
     rw[h2]at hq;simp only[Option.some.injEq]at hq;rw[<-hq];exact yI s false A B m c m' c' a b false false w h h' ha (by omega) rfl hla hlb e2
end Go.BI
namespace Go.BI
open Go Go.RowKit Go.Proofs
theorem lq(s s':Bool)(A A':Option Addr)(m c m' c' a a':Nat)(z z':Bool)(w:World)(hn:Num w (.slice A m c) a z)(hd:Num w (.slice A' m' c') a' z')(hl:a<18446744073709551616)(hl':a'<18446744073709551616){q:Q}(hq:qNormal ⟨⟨s,a,z⟩,⟨s',a',z'⟩⟩=some q):Calls Tryz.prog 85 #[.agg #[.bool s,.slice A m c,.bool s',.slice A' m' c']] w (MakesQ q w):=by have hpE:Env w [(#[.bool s,.slice A m c,.bool s',.slice A' m' c'],52),(#[.bool false,.slice none 0 0,.bool false,.slice none 0 0],52)] ((w.alloc (.cells #[.bool s,.slice A m c,.bool s',.slice A' m' c'] 52)).alloc (.cells #[.bool false,.slice none 0 0,.bool false,.slice none 0 0] 52)):=.two;have HE:=Lib.hid hpE;clear hpE;go_enter Tryz.func85,Tryz.ntmps85;go_wp2_with fail;refine(iP s s' A A' m c m' c' a a' z z' _ (hn.below HE.out.below) (hd.below HE.out.below) hl hl' hq).mono ?_;rintro e w1 ⟨⟨A1,m1,c1,A2,m2,c2,rfl,hN1,hN2,hap⟩,hB1⟩;have HE1:=Lib.hid (HE.out.step hB1);have HN1:=Lib.hid hN1;have HN2:=Lib.hid hN2;have HAP:=Lib.hid hap;have HSZ:=Lib.hid (p:=w.heap.size+2<=((w.alloc (.cells #[.bool s,.slice A m c,.bool s',.slice A' m' c'] 52)).alloc (.cells #[.bool false,.slice none 0 0,.bool false,.slice none 0 0] 52)).heap.size) HE.out.size;obtain⟨⟨r0,r1,r2,r3⟩,f0,f1,f2,f3⟩:=Env.wq1 HE1.out;clear hN1 hN2 hB1 hap;go_wp2;have R:=HE1.out.aT (bx:=[_]) (w.heap.size+1) rfl (.bool q.num.s) (.slice A1 m1 c1) (.bool q.den.s) (.slice A2 m2 c2);have d0:=R.c0;have d1:=R.c1;have d2:=R.c2;have d3:=R.c3;refine bodyPost_ret (by simp[results,Tryz.results85,go_sem,d0,d1,d2,d3];try rfl) rfl ?_;exact⟨⟨_,_,_,_,_,_,rfl,(HN1.out.only (b:=w.heap.size+1) (by have:=HSZ.out;omega) R.only).mono (by have:=HSZ.out;omega),(HN2.out.only (b:=w.heap.size+1) (by have:=HSZ.out;omega) R.only).mono (by have:=HSZ.out;omega),HAP.out⟩,R.below⟩
theorem Env.wq0{w W:World}{x y z u:Value}{T:TypeId}(h:Env w [(#[x,y,z,u],T)] W):(W.cell? ⟨w.heap.size,0,none⟩=some x/\W.cell? ⟨w.heap.size,1,none⟩=some y/\W.cell? ⟨w.heap.size,2,none⟩=some z/\W.cell? ⟨w.heap.size,3,none⟩=some u)/\W.frozen? ⟨w.heap.size,0,none⟩=false/\W.frozen? ⟨w.heap.size,1,none⟩=false/\W.frozen? ⟨w.heap.size,2,none⟩=false/\W.frozen? ⟨w.heap.size,3,none⟩=false:=⟨⟨h.cell 0 0 rfl rfl,h.cell 0 1 rfl rfl,h.cell 0 2 rfl rfl,h.cell 0 3 rfl rfl⟩,h.free 0 0 rfl,h.free 0 1 rfl,h.free 0 2 rfl,h.free 0 3 rfl⟩
theorem yK(n:Int)(w:World)(h1:-9223372036854775808<=n)(h2:n<9223372036854775808):Calls Tryz.prog 52 #[.int .i64 n] w (MakesQ (qOf n) w):=by have hpE:Env w [(#[.bool false,.slice none 0 0,.bool false,.slice none 0 0],52)] (w.alloc (.cells #[.bool false,.slice none 0 0,.bool false,.slice none 0 0] 52)):=.one;have HE:=Lib.hid hpE;clear hpE;go_enter Tryz.func52,Tryz.ntmps52;go_wp2_with fail;refine(a_ n _ h1 h2).mono ?_;rintro e w1 ⟨⟨A1,m1,c1,rfl,hN1⟩,hB1⟩;have HE1:=Lib.hid (HE.out.step hB1);have HN0:=Lib.hid hN1;clear hN1 hB1;go_wp2_with fail;refine(a_ 1 _ (by decide) (by decide)).mono ?_;rintro e w2 ⟨⟨A2,m2,c2,rfl,hN2⟩,hB2⟩;have HE2:=Lib.hid (HE1.out.step hB2);have HN1:=Lib.hid (HN0.out.below hB2);have HN2:=Lib.hid hN2;have HAP:=Lib.hid (Apart.later HN0.out hN2 (Nat.le_refl _));have HSZ:=Lib.hid (p:=w.heap.size+1<=(w.alloc (.cells #[.bool false,.slice none 0 0,.bool false,.slice none 0 0] 52)).heap.size/\w.heap.size+1<=w1.heap.size) ⟨HE.out.size,HE1.out.size⟩;obtain⟨⟨r0,r1,r2,r3⟩,f0,f1,f2,f3⟩:=Env.wq0 HE2.out;clear hN2 hB2;go_wp2;have R:=HE2.out.aT (bx:=[]) (w.heap.size) rfl (.bool (jOf n).s) (.slice A1 m1 c1) (.bool (jOf 1).s) (.slice A2 m2 c2);have d0:=R.c0;have d1:=R.c1;have d2:=R.c2;have d3:=R.c3;refine bodyPost_ret (by simp[results,Tryz.results52,go_sem,d0,d1,d2,d3];try rfl) rfl ?_;exact⟨⟨_,_,_,_,_,_,rfl,(HN1.out.only (b:=w.heap.size) (by have:=HSZ.out;omega) R.only).mono (by have:=HSZ.out;omega),(HN2.out.only (b:=w.heap.size) (by have:=HSZ.out;omega) R.only).mono (by have:=HSZ.out;omega),HAP.out⟩,R.below⟩
theorem yL(s:Bool)(A:Option Addr)(m c a:Nat)(z:Bool)(w:World)(hn:Num w (.slice A m c) a z):Calls Tryz.prog 34 #[.agg #[.bool s,.slice A m c]] w (MakesQ (qWhole ⟨s,a,z⟩) w):=by have hpE:Env w [(#[.bool s,.slice A m c],50),(#[.bool false,.slice none 0 0,.bool false,.slice none 0 0],52)] ((w.alloc (.cells #[.bool s,.slice A m c] 50)).alloc (.cells #[.bool false,.slice none 0 0,.bool false,.slice none 0 0] 52)):=.two;have HE:=Lib.hid hpE;clear hpE;go_enter Tryz.func34,Tryz.ntmps34;go_wp2_with fail;refine(cw s A m c a z _ (hn.below HE.out.below)).mono ?_;rintro e w1 ⟨⟨A1,m1,c1,rfl,hN1⟩,hB1⟩;have HE1:=Lib.hid (HE.out.step hB1);have HN0:=Lib.hid hN1;clear hN1 hB1;go_wp2_with fail;refine(a_ 1 _ (by decide) (by decide)).mono ?_;rintro e w2 ⟨⟨A2,m2,c2,rfl,hN2⟩,hB2⟩;have HE2:=Lib.hid (HE1.out.step hB2);have HN1:=Lib.hid (HN0.out.below hB2);have HN2:=Lib.hid hN2;have HAP:=Lib.hid (Apart.later HN0.out hN2 (Nat.le_refl _));have HSZ:=Lib.hid (p:=w.heap.size+2<=((w.alloc (.cells #[.bool s,.slice A m c] 50)).alloc (.cells #[.bool false,.slice none 0 0,.bool false,.slice none 0 0] 52)).heap.size/\w.heap.size+2<=w1.heap.size) ⟨HE.out.size,HE1.out.size⟩;obtain⟨⟨r0,r1,r2,r3⟩,f0,f1,f2,f3⟩:=Env.wq1 HE2.out;clear hN2 hB2;go_wp2;have R:=HE2.out.aT (bx:=[_]) (w.heap.size+1) rfl (.bool (J.normal ⟨s,a,z⟩).s) (.slice A1 m1 c1) (.bool (jOf 1).s) (.slice A2 m2 c2);have d0:=R.c0;have d1:=R.c1;have d2:=R.c2;have d3:=R.c3;refine bodyPost_ret (by simp[results,Tryz.results34,go_sem,d0,d1,d2,d3];try rfl) rfl ?_;exact⟨⟨_,_,_,_,_,_,rfl,(HN1.out.only (b:=w.heap.size+1) (by have:=HSZ.out;omega) R.only).mono (by have:=HSZ.out;omega),(HN2.out.only (b:=w.heap.size+1) (by have:=HSZ.out;omega) R.only).mono (by have:=HSZ.out;omega),HAP.out⟩,R.below⟩
end Go.BI
namespace Go.BI
open Go Go.RowKit Go.Proofs
theorem pR(x:J):x.sign = -1\/x.sign=0\/x.sign=1:=by unfold J.sign;cases Nat.beq x.n 0<;>cases x.s<;>simp
theorem yM(q:Q):q.num.sign*q.den.sign=qSign q:=by obtain⟨⟨s,a,z⟩,⟨t,b,u⟩⟩:=q;unfold qSign J.sign isZ;simp only;cases Nat.beq a 0<;>cases Nat.beq b 0<;>cases s<;>cases t<;>rfl
theorem yN(s s':Bool)(A A':Option Addr)(m c m' c' a a':Nat)(z z':Bool)(w:World)(hn:Num w (.slice A m c) a z)(hd:Num w (.slice A' m' c') a' z'):Calls Tryz.prog 122 #[.agg #[.bool s,.slice A m c,.bool s',.slice A' m' c']] w λe w'=>e=.returned (.int .i64 (qSign ⟨⟨s,a,z⟩,⟨s',a',z'⟩⟩))/\RowKit.Below w.heap.size w w':=by
 rw[<-yM];have hc1:=pR ⟨s,a,z⟩;have hc2:=pR ⟨s',a',z'⟩;have HC1:=Lib.hid (λw h=>dk s A m c a z w h);have HC2:=Lib.hid (λw h=>dk s' A' m' c' a' z' w h);simp only;generalize J.sign ⟨s,a,z⟩=x at *;generalize J.sign ⟨s',a',z'⟩=y at *;have hw:IntKind.i64.wrap (x*y)=x*y:=by rcases hc1 with rfl|rfl|rfl<;>rcases hc2 with rfl|rfl|rfl<;>decide
 clear hc1 hc2;have hpE:Env w [(#[.bool s,.slice A m c,.bool s',.slice A' m' c'],52)] (w.alloc (.cells #[.bool s,.slice A m c,.bool s',.slice A' m' c'] 52)):=.one;have HE:=Lib.hid hpE;clear hpE;go_enter Tryz.func122,Tryz.ntmps122;go_wp2_with fail;have hE:=HE.out.drew
 go_region_held3 (λw'=>Env w [(#[.bool s,.slice A m c,.bool s',.slice A' m' c'],52)] w'/\w'.cell? ⟨w.heap.size,0,none⟩=some (.bool s)/\w'.cell? ⟨w.heap.size,1,none⟩=some (.slice A m c)/\w'.cell? ⟨w.heap.size,2,none⟩=some (.bool s')/\w'.cell? ⟨w.heap.size,3,none⟩=some (.slice A' m' c'))
  (exact Env.q0 (by assumption))
  (first
   |(go_at_call_of 119 (Value.slice A m c);refine(HC1.out _ (hn.below (Env.below hE)).digs).mono ?_;rintro e w1 ⟨rfl,hB1⟩;have hE1:=Env.step hE hB1)
   |(go_at_call_of 119 (Value.slice A' m' c');refine(HC2.out _ (hd.below (Env.below hE1)).digs).mono ?_;rintro e w2 ⟨rfl,hB2⟩;have hE2:=Env.step hE1 hB2))
 have HE2:=Lib.hid hE2;clear hE hE1 hE2 hB1 hB2;go_wp2;go_ret;exact⟨rfl,HE2.out.below⟩
theorem pS(s s':Bool)(A A':Option Addr)(m c m' c' a a':Nat)(z z':Bool)(w:World)(hn:Num w (.slice A m c) a z)(hd:Num w (.slice A' m' c') a' z')(hl:a<18446744073709551616)(hl':a'<18446744073709551616){q:Q}(hq:qNeg ⟨⟨s,a,z⟩,⟨s',a',z'⟩⟩=some q):Calls Tryz.prog 60 #[.agg #[.bool s,.slice A m c,.bool s',.slice A' m' c']] w (MakesQ q w):=by
 have HQ:=Lib.hid hq;clear hq;have hpE:Env w [(#[.bool s,.slice A m c,.bool s',.slice A' m' c'],52),(#[.bool false,.slice none 0 0,.bool false,.slice none 0 0],52)] ((w.alloc (.cells #[.bool s,.slice A m c,.bool s',.slice A' m' c'] 52)).alloc (.cells #[.bool false,.slice none 0 0,.bool false,.slice none 0 0] 52)):=.two;have HE:=Lib.hid hpE;clear hpE;go_enter Tryz.func60,Tryz.ntmps60;go_wp2_with fail;have hE:=HE.out.drew
 go_region_held3 (λw'=>Env w [(#[.bool s,.slice A m c,.bool s',.slice A' m' c'],52)] w'/\w'.cell? ⟨w.heap.size,0,none⟩=some (.bool s)/\w'.cell? ⟨w.heap.size,1,none⟩=some (.slice A m c)/\w'.cell? ⟨w.heap.size,2,none⟩=some (.bool s')/\w'.cell? ⟨w.heap.size,3,none⟩=some (.slice A' m' c'))
  (first|exact Env.q1 (by assumption)|exact Env.yJ (by assumption))
  (first
   |(go_at_call 125;refine(pP s A m c a z _ (hn.below (Env.below hE))).mono ?_;rintro e w1 ⟨⟨A1,m1,c1,rfl,hN1⟩,hB1⟩;have hE1:=Env.step hE hB1)
   |(go_at_call 124;refine(iP _ s' A1 A' m1 c1 m' c' a a' z z' _ hN1.num (hd.below (Env.below hE1)) hl hl' HQ.out).mono ?_;rintro e w2 ⟨⟨A3,m3,c3,A4,m4,c4,rfl,hN3,hN4,hap⟩,hB2⟩;have hE2:=Env.step hE1 hB2;obtain⟨⟨r0,r1,r2,r3⟩,f0,f1,f2,f3⟩:=Env.wq1 hE2))
 have HE2:=Lib.hid hE2;have HN3:=Lib.hid hN3;have HN4:=Lib.hid hN4;have HAP:=Lib.hid hap;have HSZ:=Lib.hid (p:=w.heap.size+2<=w1.heap.size) hE1.size;clear hE hE1 hE2 hB1 hB2 hN1 hN3 hN4 hap r0 r1 r2 r3 f0 f1 f2 f3;go_wp2;have R:=HE2.out.aT (bx:=[_]) (w.heap.size+1) rfl (.bool q.num.s) (.slice A3 m3 c3) (.bool q.den.s) (.slice A4 m4 c4);have d0:=R.c0;have d1:=R.c1;have d2:=R.c2;have d3:=R.c3;refine bodyPost_ret (by simp[results,Tryz.results60,go_sem,d0,d1,d2,d3];try rfl) rfl ?_;exact⟨⟨_,_,_,_,_,_,rfl,(HN3.out.only (b:=w.heap.size+1) (by have:=HSZ.out;omega) R.only).mono (by have:=HSZ.out;omega),(HN4.out.only (b:=w.heap.size+1) (by have:=HSZ.out;omega) R.only).mono (by have:=HSZ.out;omega),HAP.out⟩,R.below⟩
end Go.BI
namespace Go.BI
open Go Go.RowKit Go.Proofs
theorem dK{s t:Bool}{a b:Nat}{z u:Bool}{r:J}(h:jMul ⟨s,a,z⟩ ⟨t,b,u⟩=some r):r=⟨jSign (s !=t) (a*b),a*b,isZ a||isZ b⟩/\(a=0\/b=0\/(a<4294967296/\b<4294967296))/\r.n<18446744073709551616:=by
 unfold jMul at h;simp only at h;cases hz:(isZ a||isZ b)with
 |true=>
  rw[hz]at h;simp only[cond,Option.some.injEq]at h;subst h;rw[Bool.or_eq_true]at hz
  have e:a*b=0:=by
   rcases hz with e|e
   .have:=Nat.eq_of_beq_eq_true e;subst this;simp
   .have:=Nat.eq_of_beq_eq_true e;subst this;simp
  refine⟨by rw[e];rfl,?_,by show(0:Nat)<_;omega⟩;rcases hz with e|e
  .exact .inl (Nat.eq_of_beq_eq_true e)
  .exact .inr (.inl (Nat.eq_of_beq_eq_true e))
 |false=>
  rw[hz]at h;simp only[cond]at h;cases hl:(Nat.blt a 4294967296&&Nat.blt b 4294967296)with
  |false=>rw[hl]at h;cases h
  |true=>rw[hl]at h;simp only[Option.some.injEq]at h;subst h;rw[Bool.and_eq_true]at hl;have h1:a<4294967296:=Nat.le_of_ble_eq_true hl.1;have h2:b<4294967296:=Nat.le_of_ble_eq_true hl.2;have e:(!(beqB s t))=(s !=t):=(pM s t).symm;refine⟨by unfold jSigned;rw[e];rfl,.inr (.inr ⟨h1,h2⟩),?_⟩;exact Nat.lt_of_lt_of_le (Nat.mul_lt_mul'' h1 h2) (by decide)
theorem ew(s t:Bool)(A B:Option Addr)(m c m' c' a b:Nat)(z u:Bool)(w:World)(h:Num w (.slice A m c) a z)(h':Num w (.slice B m' c') b u){r:J}(hr:jMul ⟨s,a,z⟩ ⟨t,b,u⟩=some r):Calls Tryz.prog 72 #[.agg #[.bool s,.slice A m c],.agg #[.bool t,.slice B m' c']] w (MakesJ r w):=by obtain⟨e,hs,_⟩:=dK hr;rw[e];exact yt s t A B m c m' c' a b z u w h h' hs
theorem yO(s s':Bool)(A A':Option Addr)(m c m' c' a a':Nat)(z z':Bool)(t t':Bool)(B B':Option Addr)(k d k' d' b b':Nat)(u u':Bool)(w:World)(hn:Num w (.slice A m c) a z)(hd:Num w (.slice A' m' c') a' z')(gn:Num w (.slice B k d) b u)(gd:Num w (.slice B' k' d') b' u'){q:Q}(hq:qMul ⟨⟨s,a,z⟩,⟨s',a',z'⟩⟩ ⟨⟨t,b,u⟩,⟨t',b',u'⟩⟩=some q):Calls Tryz.prog 88 #[.agg #[.bool s,.slice A m c,.bool s',.slice A' m' c'],.agg #[.bool t,.slice B k d,.bool t',.slice B' k' d']] w (MakesQ q w):=by
 unfold qMul at hq;simp only[Option.bind_eq_some_iff]at hq;obtain⟨x,hx,y,hy,hq⟩:=hq;have HX:=Lib.hid hx;have HY:=Lib.hid hy;have HQ:=Lib.hid hq;have HLX:=Lib.hid (dK hx).2.2;have HLY:=Lib.hid (dK hy).2.2;clear hx hy hq;have hpE:Env w [(#[.bool s,.slice A m c,.bool s',.slice A' m' c'],52),(#[.bool t,.slice B k d,.bool t',.slice B' k' d'],52),(#[.bool false,.slice none 0 0,.bool false,.slice none 0 0],52)] (((w.alloc (.cells #[.bool s,.slice A m c,.bool s',.slice A' m' c'] 52)).alloc (.cells #[.bool t,.slice B k d,.bool t',.slice B' k' d'] 52)).alloc (.cells #[.bool false,.slice none 0 0,.bool false,.slice none 0 0] 52)):=.three;have HE:=Lib.hid hpE;clear hpE;go_enter Tryz.func88,Tryz.ntmps88;go_wp2_with fail;have hE:=HE.out.drew
 go_region_held3 (λw'=>Env w [(#[.bool s,.slice A m c,.bool s',.slice A' m' c'],52),(#[.bool t,.slice B k d,.bool t',.slice B' k' d'],52)] w'/\(w'.cell? ⟨w.heap.size,0,none⟩=some (.bool s)/\w'.cell? ⟨w.heap.size,1,none⟩=some (.slice A m c)/\w'.cell? ⟨w.heap.size,2,none⟩=some (.bool s')/\w'.cell? ⟨w.heap.size,3,none⟩=some (.slice A' m' c'))/\w'.cell? ⟨w.heap.size+1,0,none⟩=some (.bool t)/\w'.cell? ⟨w.heap.size+1,1,none⟩=some (.slice B k d)/\w'.cell? ⟨w.heap.size+1,2,none⟩=some (.bool t')/\w'.cell? ⟨w.heap.size+1,3,none⟩=some (.slice B' k' d'))
  (first|exact Env.qq1 (by assumption)|exact Env.pQ (by assumption))
  (first
   |(go_at_call_of 72 (Value.slice A m c);refine(ew s t A B m c k d a b z u _ (hn.below (Env.below hE)) (gn.below (Env.below hE)) HX.out).mono ?_;rintro e w1 ⟨⟨A1,m1,c1,rfl,hN1⟩,hB1⟩;have hE1:=Env.step hE hB1)
   |(go_at_call_of 72 (Value.slice A' m' c');refine(ew s' t' A' B' m' c' k' d' a' b' z' u' _ (hd.below (Env.below hE1)) (gd.below (Env.below hE1)) HY.out).mono ?_;rintro e w2 ⟨⟨A2,m2,c2,rfl,hN2⟩,hB2⟩;have hE2:=Env.step hE1 hB2;have hN12:=hN1.below hB2)
   |(go_at_call 124;refine(iP _ _ A1 A2 m1 c1 m2 c2 _ _ _ _ _ hN12.num hN2.num HLX.out HLY.out HQ.out).mono ?_;rintro e w3 ⟨⟨A3,m3,c3,A4,m4,c4,rfl,hN3,hN4,hap⟩,hB3⟩;have hE3:=Env.step hE2 hB3;obtain⟨⟨r0,r1,r2,r3⟩,f0,f1,f2,f3⟩:=Env.wq2 hE3))
 have HE3:=Lib.hid hE3;have HN3:=Lib.hid hN3;have HN4:=Lib.hid hN4;have HAP:=Lib.hid hap;have HSZ:=Lib.hid (p:=w.heap.size+3<=w2.heap.size) hE2.size;clear hE hE1 hE2 hE3 hB1 hB2 hB3 hN1 hN2 hN12 hN3 hN4 hap r0 r1 r2 r3 f0 f1 f2 f3;go_wp2;have R:=HE3.out.aT (bx:=[_,_]) (w.heap.size+1+1) rfl (.bool q.num.s) (.slice A3 m3 c3) (.bool q.den.s) (.slice A4 m4 c4);have d0:=R.c0;have d1:=R.c1;have d2:=R.c2;have d3:=R.c3;refine bodyPost_ret (by simp[results,Tryz.results88,go_sem,d0,d1,d2,d3];try rfl) rfl ?_;exact⟨⟨_,_,_,_,_,_,rfl,(HN3.out.only (b:=w.heap.size+1+1) (by have:=HSZ.out;omega) R.only).mono (by have:=HSZ.out;omega),(HN4.out.only (b:=w.heap.size+1+1) (by have:=HSZ.out;omega) R.only).mono (by have:=HSZ.out;omega),HAP.out⟩,R.below⟩
end Go.BI
namespace Go.BI
open Go Go.RowKit Go.Proofs
theorem lr{s:Bool}{n:Nat}{z:Bool}(h:n≠0):((J.sign ⟨s,n,z⟩==0)=false):=by
 have:J.sign ⟨s,n,z⟩=if s=true then -1 else 1:=by show(bif Nat.beq n 0 then(0:Int)else bif s then -1 else 1)=_;rw[bz h];cases s<;>rfl
 rw[this];cases s<;>rfl
theorem yP(s s':Bool)(A A':Option Addr)(m c m' c' a a':Nat)(z z':Bool)(t t':Bool)(B B':Option Addr)(k d k' d' b b':Nat)(u u':Bool)(w:World)(_hn:Num w (.slice A m c) a z)(hd:Num w (.slice A' m' c') a' z')(gn:Num w (.slice B k d) b u)(gd:Num w (.slice B' k' d') b' u')(hz:a'=0)(hl:b<18446744073709551616)(hl':b'<18446744073709551616){q:Q}(hq:qNormal ⟨⟨t,b,u⟩,⟨t',b',u'⟩⟩=some q):Calls Tryz.prog 123 #[.agg #[.bool s,.slice A m c,.bool s',.slice A' m' c'],.agg #[.bool t,.slice B k d,.bool t',.slice B' k' d']] w (MakesQ q w):=by subst hz;have HQ:=Lib.hid hq;clear hq;have hpE:Env w [(#[.bool s,.slice A m c,.bool s',.slice A' m' c'],52),(#[.bool t,.slice B k d,.bool t',.slice B' k' d'],52),(#[.bool false,.slice none 0 0,.bool false,.slice none 0 0],52)] (((w.alloc (.cells #[.bool s,.slice A m c,.bool s',.slice A' m' c'] 52)).alloc (.cells #[.bool t,.slice B k d,.bool t',.slice B' k' d'] 52)).alloc (.cells #[.bool false,.slice none 0 0,.bool false,.slice none 0 0] 52)):=.three;have HE:=Lib.hid hpE;clear hpE;go_enter Tryz.func123,Tryz.ntmps123;go_wp2_with fail;refine(dk s' A' m' c' 0 z' _ (hd.below HE.out.below).digs).mono ?_;rintro e w1 ⟨rfl,hB1⟩;have HE1:=Lib.hid (HE.out.step hB1);clear hB1;have p00:w1.cell? ⟨w.heap.size,0,none⟩=some (.bool s):=HE1.out.cell 0 0 rfl rfl;have p01:w1.cell? ⟨w.heap.size,1,none⟩=some (.slice A m c):=HE1.out.cell 0 1 rfl rfl;have p02:w1.cell? ⟨w.heap.size,2,none⟩=some (.bool s'):=HE1.out.cell 0 2 rfl rfl;have p03:w1.cell? ⟨w.heap.size,3,none⟩=some (.slice A' m' c'):=HE1.out.cell 0 3 rfl rfl;have p10:w1.cell? ⟨w.heap.size+1,0,none⟩=some (.bool t):=HE1.out.cell 1 0 rfl rfl;have p11:w1.cell? ⟨w.heap.size+1,1,none⟩=some (.slice B k d):=HE1.out.cell 1 1 rfl rfl;have p12:w1.cell? ⟨w.heap.size+1,2,none⟩=some (.bool t'):=HE1.out.cell 1 2 rfl rfl;have p13:w1.cell? ⟨w.heap.size+1,3,none⟩=some (.slice B' k' d'):=HE1.out.cell 1 3 rfl rfl;rw[show J.sign ⟨s',0,z'⟩=0 from rfl];go_wp2_with fail;refine(lq t t' B B' k d k' d' b b' u u' _ (gn.below HE1.out.below) (gd.below HE1.out.below) hl hl' HQ.out).mono ?_;rintro e w2 ⟨⟨A3,m3,c3,A4,m4,c4,rfl,hN3,hN4,hap⟩,hB2⟩;have HE2:=Lib.hid (HE1.out.step hB2);have HN3:=Lib.hid hN3;have HN4:=Lib.hid hN4;have HAP:=Lib.hid hap;have HSZ:=Lib.hid (p:=w.heap.size+3<=w1.heap.size) HE1.out.size;obtain⟨⟨r0,r1,r2,r3⟩,f0,f1,f2,f3⟩:=Env.wq2 HE2.out;clear hN3 hN4 hap hB2;clear p00 p01 p02 p03 p10 p11 p12 p13;go_wp2;have R:=HE2.out.aT (bx:=[_,_]) (w.heap.size+1+1) rfl (.bool q.num.s) (.slice A3 m3 c3) (.bool q.den.s) (.slice A4 m4 c4);have d0:=R.c0;have d1:=R.c1;have d2:=R.c2;have d3:=R.c3;refine bodyPost_ret (by simp[results,Tryz.results123,go_sem,d0,d1,d2,d3];try rfl) rfl ?_;exact⟨⟨_,_,_,_,_,_,rfl,(HN3.out.only (b:=w.heap.size+1+1) (by have:=HSZ.out;omega) R.only).mono (by have:=HSZ.out;omega),(HN4.out.only (b:=w.heap.size+1+1) (by have:=HSZ.out;omega) R.only).mono (by have:=HSZ.out;omega),HAP.out⟩,R.below⟩
theorem yQ(s s':Bool)(A A':Option Addr)(m c m' c' a a':Nat)(z z':Bool)(t t':Bool)(B B':Option Addr)(k d k' d' b b':Nat)(u u':Bool)(w:World)(hn:Num w (.slice A m c) a z)(hd:Num w (.slice A' m' c') a' z')(_gn:Num w (.slice B k d) b u)(gd:Num w (.slice B' k' d') b' u')(ha0:a'≠0)(hz:b'=0)(hl:a<18446744073709551616)(hl':a'<18446744073709551616){q:Q}(hq:qNormal ⟨⟨s,a,z⟩,⟨s',a',z'⟩⟩=some q):Calls Tryz.prog 123 #[.agg #[.bool s,.slice A m c,.bool s',.slice A' m' c'],.agg #[.bool t,.slice B k d,.bool t',.slice B' k' d']] w (MakesQ q w):=by subst hz;have HQ:=Lib.hid hq;clear hq;have hpE:Env w [(#[.bool s,.slice A m c,.bool s',.slice A' m' c'],52),(#[.bool t,.slice B k d,.bool t',.slice B' k' d'],52),(#[.bool false,.slice none 0 0,.bool false,.slice none 0 0],52)] (((w.alloc (.cells #[.bool s,.slice A m c,.bool s',.slice A' m' c'] 52)).alloc (.cells #[.bool t,.slice B k d,.bool t',.slice B' k' d'] 52)).alloc (.cells #[.bool false,.slice none 0 0,.bool false,.slice none 0 0] 52)):=.three;have HE:=Lib.hid hpE;clear hpE;go_enter Tryz.func123,Tryz.ntmps123;go_wp2_with fail;refine(dk s' A' m' c' a' z' _ (hd.below HE.out.below).digs).mono ?_;rintro e w1 ⟨rfl,hB1⟩;have HE1:=Lib.hid (HE.out.step hB1);clear hB1;have p00:w1.cell? ⟨w.heap.size,0,none⟩=some (.bool s):=HE1.out.cell 0 0 rfl rfl;have p01:w1.cell? ⟨w.heap.size,1,none⟩=some (.slice A m c):=HE1.out.cell 0 1 rfl rfl;have p02:w1.cell? ⟨w.heap.size,2,none⟩=some (.bool s'):=HE1.out.cell 0 2 rfl rfl;have p03:w1.cell? ⟨w.heap.size,3,none⟩=some (.slice A' m' c'):=HE1.out.cell 0 3 rfl rfl;have p10:w1.cell? ⟨w.heap.size+1,0,none⟩=some (.bool t):=HE1.out.cell 1 0 rfl rfl;have p11:w1.cell? ⟨w.heap.size+1,1,none⟩=some (.slice B k d):=HE1.out.cell 1 1 rfl rfl;have p12:w1.cell? ⟨w.heap.size+1,2,none⟩=some (.bool t'):=HE1.out.cell 1 2 rfl rfl;have p13:w1.cell? ⟨w.heap.size+1,3,none⟩=some (.slice B' k' d'):=HE1.out.cell 1 3 rfl rfl;have hx1:((J.sign ⟨s',a',z'⟩==0)=false):=lr ha0;generalize J.sign ⟨s',a',z'⟩=x1 at *;go_wp2_with fail;refine(dk t' B' k' d' 0 u' _ (gd.below HE1.out.below).digs).mono ?_;rintro e w2 ⟨rfl,hB2⟩;have HE2:=Lib.hid (HE1.out.step hB2);clear hB2;rw[show J.sign ⟨t',0,u'⟩=0 from rfl];clear p00 p01 p02 p03 p10 p11 p12 p13;have p00:w2.cell? ⟨w.heap.size,0,none⟩=some (.bool s):=HE2.out.cell 0 0 rfl rfl;have p01:w2.cell? ⟨w.heap.size,1,none⟩=some (.slice A m c):=HE2.out.cell 0 1 rfl rfl;have p02:w2.cell? ⟨w.heap.size,2,none⟩=some (.bool s'):=HE2.out.cell 0 2 rfl rfl;have p03:w2.cell? ⟨w.heap.size,3,none⟩=some (.slice A' m' c'):=HE2.out.cell 0 3 rfl rfl;have p10:w2.cell? ⟨w.heap.size+1,0,none⟩=some (.bool t):=HE2.out.cell 1 0 rfl rfl;have p11:w2.cell? ⟨w.heap.size+1,1,none⟩=some (.slice B k d):=HE2.out.cell 1 1 rfl rfl;have p12:w2.cell? ⟨w.heap.size+1,2,none⟩=some (.bool t'):=HE2.out.cell 1 2 rfl rfl;have p13:w2.cell? ⟨w.heap.size+1,3,none⟩=some (.slice B' k' d'):=HE2.out.cell 1 3 rfl rfl;go_wp2_with fail;refine(lq s s' A A' m c m' c' a a' z z' _ (hn.below HE2.out.below) (hd.below HE2.out.below) hl hl' HQ.out).mono ?_;rintro e w3 ⟨⟨A3,m3,c3,A4,m4,c4,rfl,hN3,hN4,hap⟩,hB3⟩;have HE3:=Lib.hid (HE2.out.step hB3);have HN3:=Lib.hid hN3;have HN4:=Lib.hid hN4;have HAP:=Lib.hid hap;have HSZ:=Lib.hid (p:=w.heap.size+3<=w2.heap.size) HE2.out.size;obtain⟨⟨r0,r1,r2,r3⟩,f0,f1,f2,f3⟩:=Env.wq2 HE3.out;clear hN3 hN4 hap hB3;clear p00 p01 p02 p03 p10 p11 p12 p13;go_wp2;have R:=HE3.out.aT (bx:=[_,_]) (w.heap.size+1+1) rfl (.bool q.num.s) (.slice A3 m3 c3) (.bool q.den.s) (.slice A4 m4 c4);have d0:=R.c0;have d1:=R.c1;have d2:=R.c2;have d3:=R.c3;refine bodyPost_ret (by simp[results,Tryz.results123,go_sem,d0,d1,d2,d3];try rfl) rfl ?_;exact⟨⟨_,_,_,_,_,_,rfl,(HN3.out.only (b:=w.heap.size+1+1) (by have:=HSZ.out;omega) R.only).mono (by have:=HSZ.out;omega),(HN4.out.only (b:=w.heap.size+1+1) (by have:=HSZ.out;omega) R.only).mono (by have:=HSZ.out;omega),HAP.out⟩,R.below⟩
theorem yR(s s':Bool)(A A':Option Addr)(m c m' c' a a':Nat)(z z':Bool)(t t':Bool)(B B':Option Addr)(k d k' d' b b':Nat)(u u':Bool)(w:World)(hn:Num w (.slice A m c) a z)(hd:Num w (.slice A' m' c') a' z')(gn:Num w (.slice B k d) b u)(gd:Num w (.slice B' k' d') b' u')(ha0:a'≠0)(hb0:b'≠0)(hoa:isOne ⟨s',a',z'⟩=true)(hob:isOne ⟨t',b',u'⟩=true)(hla:a<18446744073709551616)(hlb:b<18446744073709551616){r:J}(hr:jAdd ⟨s,a,z⟩ ⟨t,b,u⟩=some r):Calls Tryz.prog 123 #[.agg #[.bool s,.slice A m c,.bool s',.slice A' m' c'],.agg #[.bool t,.slice B k d,.bool t',.slice B' k' d']] w (MakesQ ⟨r,jOne⟩ w):=by have HR:=Lib.hid hr;have hoa':(Nat.beq a' 1&&!s')=true:=hoa;have hob':(Nat.beq b' 1&&!t')=true:=hob;clear hr hoa hob;have hpE:Env w [(#[.bool s,.slice A m c,.bool s',.slice A' m' c'],52),(#[.bool t,.slice B k d,.bool t',.slice B' k' d'],52),(#[.bool false,.slice none 0 0,.bool false,.slice none 0 0],52)] (((w.alloc (.cells #[.bool s,.slice A m c,.bool s',.slice A' m' c'] 52)).alloc (.cells #[.bool t,.slice B k d,.bool t',.slice B' k' d'] 52)).alloc (.cells #[.bool false,.slice none 0 0,.bool false,.slice none 0 0] 52)):=.three;have HE:=Lib.hid hpE;clear hpE;go_enter Tryz.func123,Tryz.ntmps123;go_wp2_with fail;refine(dk s' A' m' c' a' z' _ (hd.below HE.out.below).digs).mono ?_;rintro e w1 ⟨rfl,hB1⟩;have HE1:=Lib.hid (HE.out.step hB1);clear hB1;have p00:w1.cell? ⟨w.heap.size,0,none⟩=some (.bool s):=HE1.out.cell 0 0 rfl rfl;have p01:w1.cell? ⟨w.heap.size,1,none⟩=some (.slice A m c):=HE1.out.cell 0 1 rfl rfl;have p02:w1.cell? ⟨w.heap.size,2,none⟩=some (.bool s'):=HE1.out.cell 0 2 rfl rfl;have p03:w1.cell? ⟨w.heap.size,3,none⟩=some (.slice A' m' c'):=HE1.out.cell 0 3 rfl rfl;have p10:w1.cell? ⟨w.heap.size+1,0,none⟩=some (.bool t):=HE1.out.cell 1 0 rfl rfl;have p11:w1.cell? ⟨w.heap.size+1,1,none⟩=some (.slice B k d):=HE1.out.cell 1 1 rfl rfl;have p12:w1.cell? ⟨w.heap.size+1,2,none⟩=some (.bool t'):=HE1.out.cell 1 2 rfl rfl;have p13:w1.cell? ⟨w.heap.size+1,3,none⟩=some (.slice B' k' d'):=HE1.out.cell 1 3 rfl rfl;have hx1:((J.sign ⟨s',a',z'⟩==0)=false):=lr ha0;generalize J.sign ⟨s',a',z'⟩=x1 at *;go_wp2_with fail;refine(dk t' B' k' d' b' u' _ (gd.below HE1.out.below).digs).mono ?_;rintro e w2 ⟨rfl,hB2⟩;have HE2:=Lib.hid (HE1.out.step hB2);clear hB2;have hx2:((J.sign ⟨t',b',u'⟩==0)=false):=lr hb0;generalize J.sign ⟨t',b',u'⟩=x2 at *;clear p00 p01 p02 p03 p10 p11 p12 p13;have p00:w2.cell? ⟨w.heap.size,0,none⟩=some (.bool s):=HE2.out.cell 0 0 rfl rfl;have p01:w2.cell? ⟨w.heap.size,1,none⟩=some (.slice A m c):=HE2.out.cell 0 1 rfl rfl;have p02:w2.cell? ⟨w.heap.size,2,none⟩=some (.bool s'):=HE2.out.cell 0 2 rfl rfl;have p03:w2.cell? ⟨w.heap.size,3,none⟩=some (.slice A' m' c'):=HE2.out.cell 0 3 rfl rfl;have p10:w2.cell? ⟨w.heap.size+1,0,none⟩=some (.bool t):=HE2.out.cell 1 0 rfl rfl;have p11:w2.cell? ⟨w.heap.size+1,1,none⟩=some (.slice B k d):=HE2.out.cell 1 1 rfl rfl;have p12:w2.cell? ⟨w.heap.size+1,2,none⟩=some (.bool t'):=HE2.out.cell 1 2 rfl rfl;have p13:w2.cell? ⟨w.heap.size+1,3,none⟩=some (.slice B' k' d'):=HE2.out.cell 1 3 rfl rfl;go_wp2_with fail;refine(dJ s' A' m' c' a' _ (hd.below HE2.out.below).digs).mono ?_;rintro e w3 ⟨rfl,hB3⟩;have HE3:=Lib.hid (HE2.out.step hB3);clear hB3;rw[hoa'];clear p00 p01 p02 p03 p10 p11 p12 p13;have p00:w3.cell? ⟨w.heap.size,0,none⟩=some (.bool s):=HE3.out.cell 0 0 rfl rfl;have p01:w3.cell? ⟨w.heap.size,1,none⟩=some (.slice A m c):=HE3.out.cell 0 1 rfl rfl;have p02:w3.cell? ⟨w.heap.size,2,none⟩=some (.bool s'):=HE3.out.cell 0 2 rfl rfl;have p03:w3.cell? ⟨w.heap.size,3,none⟩=some (.slice A' m' c'):=HE3.out.cell 0 3 rfl rfl;have p10:w3.cell? ⟨w.heap.size+1,0,none⟩=some (.bool t):=HE3.out.cell 1 0 rfl rfl;have p11:w3.cell? ⟨w.heap.size+1,1,none⟩=some (.slice B k d):=HE3.out.cell 1 1 rfl rfl;have p12:w3.cell? ⟨w.heap.size+1,2,none⟩=some (.bool t'):=HE3.out.cell 1 2 rfl rfl;have p13:w3.cell? ⟨w.heap.size+1,3,none⟩=some (.slice B' k' d'):=HE3.out.cell 1 3 rfl rfl;go_wp2_with fail;refine(dJ t' B' k' d' b' _ (gd.below HE3.out.below).digs).mono ?_;rintro e w4 ⟨rfl,hB4⟩;have HE4:=Lib.hid (HE3.out.step hB4);clear hB4;rw[hob'];clear p00 p01 p02 p03 p10 p11 p12 p13;have p00:w4.cell? ⟨w.heap.size,0,none⟩=some (.bool s):=HE4.out.cell 0 0 rfl rfl;have p01:w4.cell? ⟨w.heap.size,1,none⟩=some (.slice A m c):=HE4.out.cell 0 1 rfl rfl;have p02:w4.cell? ⟨w.heap.size,2,none⟩=some (.bool s'):=HE4.out.cell 0 2 rfl rfl;have p03:w4.cell? ⟨w.heap.size,3,none⟩=some (.slice A' m' c'):=HE4.out.cell 0 3 rfl rfl;have p10:w4.cell? ⟨w.heap.size+1,0,none⟩=some (.bool t):=HE4.out.cell 1 0 rfl rfl;have p11:w4.cell? ⟨w.heap.size+1,1,none⟩=some (.slice B k d):=HE4.out.cell 1 1 rfl rfl;have p12:w4.cell? ⟨w.heap.size+1,2,none⟩=some (.bool t'):=HE4.out.cell 1 2 rfl rfl;have p13:w4.cell? ⟨w.heap.size+1,3,none⟩=some (.slice B' k' d'):=HE4.out.cell 1 3 rfl rfl;go_wp2_with fail;refine(iM s t A B m c k d a b z u _ (hn.below HE4.out.below) (gn.below HE4.out.below) hla hlb HR.out).mono ?_;rintro e w5 ⟨⟨A1,m1,c1,rfl,hN1⟩,hB5⟩;have HE5:=Lib.hid (HE4.out.step hB5);have HN5:=Lib.hid hN1;clear p00 p01 p02 p03 p10 p11 p12 p13;clear hN1 hB5;go_wp2_with fail;refine(a_ 1 _ (by decide) (by decide)).mono ?_;rintro e w6 ⟨⟨A2,m2,c2,rfl,hN2⟩,hB6⟩;have HE6:=Lib.hid (HE5.out.step hB6);have HN1:=Lib.hid (HN5.out.below hB6);have HN2:=Lib.hid hN2;have HAP:=Lib.hid (Apart.later HN5.out hN2 (Nat.le_refl _));have HSZ:=Lib.hid (p:=w.heap.size+3<=w4.heap.size/\w.heap.size+3<=w5.heap.size) ⟨HE4.out.size,HE5.out.size⟩;obtain⟨⟨r0,r1,r2,r3⟩,f0,f1,f2,f3⟩:=Env.wq2 HE6.out;clear hN2 hB6;go_wp2;have R:=HE6.out.aT (bx:=[_,_]) (w.heap.size+1+1) rfl (.bool r.s) (.slice A1 m1 c1) (.bool (jOf 1).s) (.slice A2 m2 c2);have d0:=R.c0;have d1:=R.c1;have d2:=R.c2;have d3:=R.c3;refine bodyPost_ret (by simp[results,Tryz.results123,go_sem,d0,d1,d2,d3];try rfl) rfl ?_;exact⟨⟨_,_,_,_,_,_,rfl,(HN1.out.only (b:=w.heap.size+1+1) (by have:=HSZ.out;omega) R.only).mono (by have:=HSZ.out;omega),(HN2.out.only (b:=w.heap.size+1+1) (by have:=HSZ.out;omega) R.only).mono (by have:=HSZ.out;omega),HAP.out⟩,R.below⟩
theorem pT(s s':Bool)(A A':Option Addr)(m c m' c' a a':Nat)(z z':Bool)(t t':Bool)(B B':Option Addr)(k d k' d' b b':Nat)(u u':Bool)(w:World)(hn:Num w (.slice A m c) a z)(hd:Num w (.slice A' m' c') a' z')(gn:Num w (.slice B k d) b u)(gd:Num w (.slice B' k' d') b' u')(hla:a<18446744073709551616)(hla':a'<18446744073709551616)(hlb:b<18446744073709551616)(hlb':b'<18446744073709551616){q:Q}(hq:qAdd ⟨⟨s,a,z⟩,⟨s',a',z'⟩⟩ ⟨⟨t,b,u⟩,⟨t',b',u'⟩⟩=some q):Calls Tryz.prog 123 #[.agg #[.bool s,.slice A m c,.bool s',.slice A' m' c'],.agg #[.bool t,.slice B k d,.bool t',.slice B' k' d']] w (MakesQ q w):=by
 unfold qAdd at hq;simp only at hq;cases hz1:isZ a' with
 |true=>rw[hz1]at hq;exact yP s s' A A' m c m' c' a a' z z' t t' B B' k d k' d' b b' u u' w hn hd gn gd (Nat.eq_of_beq_eq_true hz1) hlb hlb' hq
 |false=>
  have ha0:a'≠0:=λe=>by subst e;cases hz1
  rw[hz1]at hq;simp only[cond]at hq;cases hz2:isZ b' with
  |true=>rw[hz2]at hq;exact yQ s s' A A' m c m' c' a a' z z' t t' B B' k d k' d' b b' u u' w hn hd gn gd ha0 (Nat.eq_of_beq_eq_true hz2) hla hla' hq
  |false=>
   have hb0:b'≠0:=λe=>by subst e;cases hz2
   rw[hz2]at hq;simp only[]at hq;cases ho:(isOne ⟨s',a',z'⟩&&isOne ⟨t',b',u'⟩)with
   |false=>rw[ho]at hq;cases hq
   |true=>rw[ho]at hq;rw[Bool.and_eq_true]at ho;simp only[Option.map_eq_some_iff]at hq;obtain⟨r,hr,rfl⟩:=hq;exact yR s s' A A' m c m' c' a a' z z' t t' B B' k d k' d' b b' u u' w hn hd gn gd ha0 hb0 ho.1 ho.2 hla hlb hr
theorem yS(s s':Bool)(A A':Option Addr)(m c m' c' a a':Nat)(z z':Bool)(t t':Bool)(B B':Option Addr)(k d k' d' b b':Nat)(u u':Bool)(w:World)(hn:Num w (.slice A m c) a z)(hd:Num w (.slice A' m' c') a' z')(gn:Num w (.slice B k d) b u)(gd:Num w (.slice B' k' d') b' u')(hla:a<18446744073709551616)(hla':a'<18446744073709551616)(hlb:b<18446744073709551616)(hlb':b'<18446744073709551616){v q:Q}(hv:qNeg ⟨⟨t,b,u⟩,⟨t',b',u'⟩⟩=some v)(hvl:v.num.n<18446744073709551616)(hvl':v.den.n<18446744073709551616)(hq:qAdd ⟨⟨s,a,z⟩,⟨s',a',z'⟩⟩ v=some q):Calls Tryz.prog 63 #[.agg #[.bool s,.slice A m c,.bool s',.slice A' m' c'],.agg #[.bool t,.slice B k d,.bool t',.slice B' k' d']] w (MakesQ q w):=by
 have HV:=Lib.hid hv;have HQ:=Lib.hid hq;have HL:=Lib.hid (And.intro hla (And.intro hla' (And.intro hvl hvl')));clear hv hq;have hpE:Env w [(#[.bool s,.slice A m c,.bool s',.slice A' m' c'],52),(#[.bool t,.slice B k d,.bool t',.slice B' k' d'],52),(#[.bool false,.slice none 0 0,.bool false,.slice none 0 0],52)] (((w.alloc (.cells #[.bool s,.slice A m c,.bool s',.slice A' m' c'] 52)).alloc (.cells #[.bool t,.slice B k d,.bool t',.slice B' k' d'] 52)).alloc (.cells #[.bool false,.slice none 0 0,.bool false,.slice none 0 0] 52)):=.three;have HE:=Lib.hid hpE;clear hpE;go_enter Tryz.func63,Tryz.ntmps63;go_wp2_with fail;have hE:=HE.out.drew
 go_region_held3 (λw'=>Env w [(#[.bool s,.slice A m c,.bool s',.slice A' m' c'],52),(#[.bool t,.slice B k d,.bool t',.slice B' k' d'],52)] w'/\(w'.cell? ⟨w.heap.size,0,none⟩=some (.bool s)/\w'.cell? ⟨w.heap.size,1,none⟩=some (.slice A m c)/\w'.cell? ⟨w.heap.size,2,none⟩=some (.bool s')/\w'.cell? ⟨w.heap.size,3,none⟩=some (.slice A' m' c'))/\w'.cell? ⟨w.heap.size+1,0,none⟩=some (.bool t)/\w'.cell? ⟨w.heap.size+1,1,none⟩=some (.slice B k d)/\w'.cell? ⟨w.heap.size+1,2,none⟩=some (.bool t')/\w'.cell? ⟨w.heap.size+1,3,none⟩=some (.slice B' k' d'))
  (first|exact Env.qq1 (by assumption)|exact Env.pQ (by assumption))
  (first
   |(go_at_call 60;refine(pS t t' B B' k d k' d' b b' u u' _ (gn.below (Env.below hE)) (gd.below (Env.below hE)) hlb hlb' HV.out).mono ?_;rintro e w1 ⟨⟨A1,m1,c1,A2,m2,c2,rfl,hN1,hN2,_⟩,hB1⟩;have hE1:=Env.step hE hB1)
   |(go_at_call 123;refine(pT s s' A A' m c m' c' a a' z z' v.num.s v.den.s A1 A2 m1 c1 m2 c2 v.num.n v.den.n v.num.z v.den.z _ (hn.below (Env.below hE1)) (hd.below (Env.below hE1)) hN1.num hN2.num HL.out.1 HL.out.2.1 HL.out.2.2.1 HL.out.2.2.2 HQ.out).mono ?_;rintro e w3 ⟨⟨A3,m3,c3,A4,m4,c4,rfl,hN3,hN4,hap⟩,hB3⟩;have hE3:=Env.step hE1 hB3;obtain⟨⟨r0,r1,r2,r3⟩,f0,f1,f2,f3⟩:=Env.wq2 hE3))
 have HE3:=Lib.hid hE3;have HN3:=Lib.hid hN3;have HN4:=Lib.hid hN4;have HAP:=Lib.hid hap;have HSZ:=Lib.hid (p:=w.heap.size+3<=w1.heap.size) hE1.size;clear hE hE1 hE3 hB1 hB3 hN1 hN2 hN3 hN4 hap r0 r1 r2 r3 f0 f1 f2 f3;go_wp2;have R:=HE3.out.aT (bx:=[_,_]) (w.heap.size+1+1) rfl (.bool q.num.s) (.slice A3 m3 c3) (.bool q.den.s) (.slice A4 m4 c4);have d0:=R.c0;have d1:=R.c1;have d2:=R.c2;have d3:=R.c3;refine bodyPost_ret (by simp[results,Tryz.results63,go_sem,d0,d1,d2,d3];try rfl) rfl ?_;exact⟨⟨_,_,_,_,_,_,rfl,(HN3.out.only (b:=w.heap.size+1+1) (by have:=HSZ.out;omega) R.only).mono (by have:=HSZ.out;omega),(HN4.out.only (b:=w.heap.size+1+1) (by have:=HSZ.out;omega) R.only).mono (by have:=HSZ.out;omega),HAP.out⟩,R.below⟩
end Go.BI
namespace Go.BI
open Go Go.RowKit
structure Hold(w1:World)(fs:List (Nat×Nat×Value))(W:World):Prop where
 below:RowKit.Below w1.heap.size w1 W
 old:∀p∈fs,p.1<w1.heap.size
 cell:∀p∈fs,W.cell? ⟨p.1,p.2.1,none⟩=some p.2.2
theorem Hold.start{w1:World}{fs:List (Nat×Nat×Value)}(h:∀p∈fs,p.1<w1.heap.size)(h':∀p∈fs,w1.cell? ⟨p.1,p.2.1,none⟩=some p.2.2):Hold w1 fs w1:=⟨.refl _ _,h,h'⟩
theorem Hold.step{w1 W W':World}{fs:List (Nat×Nat×Value)}(h:Hold w1 fs W)(hb:RowKit.Below W.heap.size W W'):Hold w1 fs W':=⟨h.below.trans (hb.mono h.below.size),h.old,λp hp=>(hb.cell (p:=⟨p.1,p.2.1,none⟩) (Nat.lt_of_lt_of_le (h.old p hp) h.below.size)).trans (h.cell p hp)⟩
theorem Hold.drew{w1 W:World}{fs:List (Nat×Nat×Value)}(h:Hold w1 fs W):Hold w1 fs W.drew:=⟨h.below.drew,h.old,h.cell⟩
theorem Hold.set{w1 W:World}{fs:List (Nat×Nat×Value)}(h:Hold w1 fs W){g:Nat}(hg:w1.heap.size<=g)(o:Nat)(u:Value):Hold w1 fs (W.setCell ⟨g,o,none⟩ u):=by have ho:Only g W (W.setCell ⟨g,o,none⟩ u):=(Only.refl g W).set o u;exact⟨h.below.setCell (p:=⟨g,o,none⟩) hg u,h.old,λp hp=>(World.cell?_of_block (ho.block p.1 (by have:=h.old p hp;omega))).trans (h.cell p hp)⟩
theorem Hold.alloc{w1 W:World}{fs:List (Nat×Nat×Value)}(h:Hold w1 fs W)(ob:Obj):Hold w1 fs (W.alloc ob):=h.step (ax _ _)
def Bx2(W:World)(g:Nat)(T:TypeId)(X Y:Value):Prop:=W.heap[g]?=some (.cells #[X,Y] T (0,0))
theorem Bx2.step{W W':World}{g:Nat}{T:TypeId}{X Y:Value}(h:Bx2 W g T X Y)(hb:RowKit.Below W.heap.size W W'):Bx2 W' g T X Y:=eu h hb
theorem Bx2.set{W:World}{g:Nat}{T:TypeId}{X Y:Value}(h:Bx2 W g T X Y)(X' Y':Value):Bx2 ((W.setCell ⟨g,0,none⟩ X').setCell ⟨g,1,none⟩ Y') g T X' Y':=cq h X' Y'
theorem Bx2.new(W:World)(T:TypeId)(X Y:Value):Bx2 (W.alloc (.cells #[X,Y] T)) W.heap.size T X Y:=by unfold Bx2 World.alloc;simp
theorem Bx2.facts{W:World}{g:Nat}{T:TypeId}{X Y:Value}(h:Bx2 W g T X Y):W.cell? ⟨g,0,none⟩=some X/\W.cell? ⟨g,1,none⟩=some Y/\W.frozen? ⟨g,0,none⟩=false/\W.frozen? ⟨g,1,none⟩=false:=⟨aw h 0 rfl,aw h 1 rfl,cI h 0,cI h 1⟩
theorem Bx2.lt{W:World}{g:Nat}{T:TypeId}{X Y:Value}(h:Bx2 W g T X Y):g<W.heap.size:=(Array.getElem?_eq_some_iff.1 h).1
def blkV:Value->Option Nat
 |.slice (some a) (_+1) _=>some a.block
 |_=>none
structure IntAt(w:World)(b o:Nat)(j:J):Prop where
 is:∃A m c,w.cell? ⟨b,o,none⟩=some (.bool j.s)/\w.cell? ⟨b,o+1,none⟩=some (.slice A m c)/\Num w (.slice A m c) j.n j.z/\j.n<18446744073709551616
theorem IntAt.below{w w':World}{b o:Nat}{j:J}(h:IntAt w b o j)(hlt:b<w.heap.size)(hb:RowKit.Below w.heap.size w w'):IntAt w' b o j:=
 let ⟨A,m,c,h1,h2,h3,h4⟩:=h.is
 ⟨A,m,c,(hb.cell (p:=⟨b,o,none⟩) hlt).trans h1,(hb.cell (p:=⟨b,o+1,none⟩) hlt).trans h2,h3.below hb,h4⟩
structure Ints(w:World)(A:Option Addr)(n c:Nat)(l:List J):Prop where
 len:l.length=n
 cap:n<=c
 max:n<=1000000
 at_:0<n->∃b o,A=some ⟨b,o,none⟩/\b<w.heap.size/\∀i (h:i<l.length),IntAt w b (o+i*2) l[i]
theorem Ints.below{w w':World}{A:Option Addr}{n c:Nat}{l:List J}(h:Ints w A n c l)(hb:RowKit.Below w.heap.size w w'):Ints w' A n c l:=⟨h.len,h.cap,h.max,λhn=>let ⟨b,o,e,hlt,hi⟩:=h.at_ hn;⟨b,o,e,Nat.lt_of_lt_of_le hlt hb.size,λi hi'=>(hi i hi').below hlt hb⟩⟩
def icells:List (Bool×Value)->List Value
 |[]=>[]
 |(s,v)::l=>.bool s::v::icells l
theorem pU(l:List (Bool×Value)):(icells l).length=l.length*2:=by
 induction l with
 |nil=>rfl
 |cons a l ih=>obtain⟨s,v⟩:=a;simp only[icells,List.length_cons,ih];omega
theorem eB{l:List (Bool×Value)}{i:Nat}{s:Bool}{v:Value}(h:l[i]?=some (s,v)):(icells l)[i*2]?=some (.bool s)/\(icells l)[i*2+1]?=some v:=by
 induction l generalizing i with
 |nil=>cases h
 |cons a l ih=>
  obtain⟨s',v'⟩:=a;cases i with
  |zero=>cases h;exact⟨rfl,rfl⟩
  |succ i=>have:=ih (i:=i) (by simpa using h);rw[show(i+1)*2=i*2+2 by omega];exact this
theorem pV(l:List (Bool×Value))(i:Nat)(s:Bool)(v:Value):((icells l).set (i*2) (.bool s)).set (i*2+1) v=icells (l.set i (s,v)):=by
 induction l generalizing i with
 |nil=>simp[icells]
 |cons a l ih=>
  obtain⟨s',v'⟩:=a;cases i with
  |zero=>rfl
  |succ i=>rw[show(i+1)*2=i*2+2 by omega,show i*2+2+1=(i*2+1)+2 by omega];simp only[icells,List.set_cons_succ];rw[<-ih i]
structure IBlk(B:Nat)(w:World)(T:TypeId)(b:Nat)(xs:List (Bool×Value))(js:List J):Prop where
 blk:w.heap[b]?=some (.cells (icells xs).toArray T (0,0))
 len:xs.length=js.length
 at_:∀(i:Nat) (s:Bool) (v:Value) (j:J),xs[i]?=some (s,v)->js[i]?=some j->s=j.s/\∃A m c,v=.slice A m c/\NumN B w (.slice A m c) j.n j.z/\∀g,blkV v=some g->g≠b
 apart:∀(i k:Nat) (s:Bool) (v:Value) (t:Bool) (u:Value) (g:Nat),i≠k->xs[i]?=some (s,v)->xs[k]?=some (t,u)->blkV v=some g->blkV u≠some g
theorem IBlk.lt{B:Nat}{w:World}{T:TypeId}{b:Nat}{xs:List (Bool×Value)}{js:List J}(h:IBlk B w T b xs js):b<w.heap.size:=(Array.getElem?_eq_some_iff.1 h.blk).1
theorem IBlk.below{B:Nat}{w w':World}{T:TypeId}{b:Nat}{xs:List (Bool×Value)}{js:List J}(h:IBlk B w T b xs js)(hb:RowKit.Below w.heap.size w w'):IBlk B w' T b xs js:=⟨eu h.blk hb,h.len,λi s v j hx hj=>let ⟨e,A,m,c,e2,hn,hg⟩:=h.at_ i s v j hx hj;⟨e,A,m,c,e2,hn.below hb,hg⟩,h.apart⟩
theorem fy{w:World}{A:Option Addr}{m c n:Nat}{z:Bool}{g:Nat}(h:Num w (.slice A m c) n z)(hg:blkV (.slice A m c)=some g):∃o,A=some ⟨g,o,none⟩/\0<m/\g<w.heap.size:=by
 cases A with
 |none=>cases hg
 |some a=>
  cases m with
  |zero=>cases hg
  |succ m=>obtain⟨A',m',c',e,hd,_⟩:=h.is;cases e;obtain⟨b,o,e,hlt,_⟩:=hd.cells (by omega);cases e;cases hg;exact⟨o,rfl,by omega,hlt⟩
theorem NumN.fG{B b:Nat}{w w':World}{A:Option Addr}{m c n:Nat}{z:Bool}(h:NumN B w (.slice A m c) n z)(ho:Only b w w')(hne:∀g o,A=some ⟨g,o,none⟩->0<m->g≠b):NumN B w' (.slice A m c) n z:=by
 obtain⟨A',m',c',e,hd,h1,h2⟩:=h.num.is;cases e;refine⟨⟨_,_,_,rfl,⟨hd.len,hd.cap,hd.max,hd.lim,λhn=>?_⟩,h1,h2⟩,λhn=>?_⟩
 .obtain⟨g,o,e,hlt,hc⟩:=hd.cells hn;refine⟨g,o,e,by rw[ho.size];exact hlt,λi hi=>?_⟩;rw[<-hc i hi];exact World.cell?_of_block (ho.block g (hne g o e hn))
 .obtain⟨A',m',c',e,hw⟩:=h.own hn;cases e;obtain⟨g,o,cs,T,e,hg,hb,hs⟩:=hw.blk;have hm:0<m:=by have:=hd.pos;omega
  exact⟨_,_,_,rfl,⟨g,o,cs,T,e,hg,(ho.block g (hne g o e hm)).trans hb,hs⟩⟩
theorem IBlk.put{B:Nat}{w0 w:World}{T:TypeId}{b:Nat}{xs:List (Bool×Value)}{js:List J}(h:IBlk B w0 T b xs js)(hb:RowKit.Below w0.heap.size w0 w)(hB:B<=w0.heap.size){A:Option Addr}{m c:Nat}{j:J}(hx:NumN w0.heap.size w (.slice A m c) j.n j.z)(i:Nat):IBlk B ((w.setCell ⟨b,i*2,none⟩ (.bool j.s)).setCell ⟨b,i*2+1,none⟩ (.slice A m c)) T b (xs.set i (j.s,.slice A m c)) (js.set i j):=by
 have hlt:=h.lt;have h1:=h.below hb;have ho:Only b w ((w.setCell ⟨b,i*2,none⟩ (.bool j.s)).setCell ⟨b,i*2+1,none⟩ (.slice A m c)):=((Only.refl _ _).set _ _).set _ _;have hxf:∀g,blkV (.slice A m c)=some g->w0.heap.size<=g:=λg hg=>by obtain⟨o,e,hm,_⟩:=fy hx.num hg;exact hx.fresh g o e hm
 have hold:∀(i:Nat) (s:Bool) (v:Value) (j:J) (g:Nat),xs[i]?=some (s,v)->js[i]?=some j->blkV v=some g->g<w0.heap.size:=λi s v j g hi hj hg=>by obtain⟨_,A',m',c',rfl,hn,_⟩:=h.at_ i s v j hi hj;exact(fy hn.num hg).choose_spec.2.2
 have hjs:∀(k:Nat) (p:Bool×Value),xs[k]?=some p->∃q,js[k]?=some q:=λk p hk=>by have:=(List.getElem?_eq_some_iff.1 hk).1;rw[h.len]at this;exact⟨_,List.getElem?_eq_getElem this⟩
 refine⟨?_,by rw[List.length_set,List.length_set,h.len],?_,?_⟩
 .simp only[World.setCell,Array.getElem?_modify,h1.blk];simp only[if_true,Option.map_some,<-pV];simp
 .intro k s v q hk hq;by_cases e:i=k
  .subst e;rw[List.getElem?_set]at hk hq;simp only[if_true]at hk hq;split at hk
   .split at hq
    .cases hk;cases hq;refine⟨rfl,A,m,c,rfl,((hx.mono hB).fG ho ?_),λg hg=>by have:=hxf g hg;omega⟩;intro g o e hm;have:=hx.fresh g o e hm;omega
    .cases hq
   .cases hk
  .rw[List.getElem?_set_ne e]at hk hq;obtain⟨e1,A',m',c',rfl,hn,hg⟩:=h1.at_ k s v q hk hq;refine⟨e1,A',m',c',rfl,hn.fG ho ?_,hg⟩;intro g o e hm;exact hg g (by subst e;cases m' with|zero=>omega|succ m'=>rfl)
 .intro k l s v t u g hkl hk hl hg;by_cases e:i=k
  .subst e;rw[List.getElem?_set_ne hkl]at hl;rw[List.getElem?_set]at hk;simp only[if_true]at hk;split at hk
   .cases hk;intro hu;obtain⟨q,hq⟩:=hjs _ _ hl;have h2:=hold _ _ _ _ _ hl hq hu;have h3:=hxf g hg;omega
   .cases hk
  .by_cases e2:i=l
   .subst e2;rw[List.getElem?_set_ne e]at hk;rw[List.getElem?_set]at hl;simp only[if_true]at hl;split at hl
    .cases hl;intro hu;obtain⟨q,hq⟩:=hjs _ _ hk;have h2:=hold _ _ _ _ _ hk hq hg;have h3:=hxf g hu;omega
    .cases hl
   .rw[List.getElem?_set_ne e]at hk;rw[List.getElem?_set_ne e2]at hl;exact h1.apart k l s v t u g hkl hk hl hg
end Go.BI
namespace Go.BI
open Go Go.RowKit
theorem Hold.of4{w1:World}{b b' o o' p p':Nat}{x y x' y':Value}(h:b<w1.heap.size)(h':b'<w1.heap.size)(c0:w1.cell? ⟨b,o,none⟩=some x)(c1:w1.cell? ⟨b,p,none⟩=some y)(d0:w1.cell? ⟨b',o',none⟩=some x')(d1:w1.cell? ⟨b',p',none⟩=some y'):Hold w1 [(b,o,x),(b,p,y),(b',o',x'),(b',p',y')] w1:=.start
 (List.forall_mem_cons.2 ⟨h,List.forall_mem_cons.2 ⟨h,List.forall_mem_cons.2 ⟨h',List.forall_mem_cons.2 ⟨h',λ_ hh=>(by cases hh)⟩⟩⟩⟩)
 (List.forall_mem_cons.2 ⟨c0,List.forall_mem_cons.2 ⟨c1,List.forall_mem_cons.2 ⟨d0,List.forall_mem_cons.2 ⟨d1,λ_ hh=>(by cases hh)⟩⟩⟩⟩)
theorem Hold.dL{w1 W:World}{b b' o o' p p':Nat}{x y x' y':Value}(h:Hold w1 [(b,o,x),(b,p,y),(b',o',x'),(b',p',y')] W):Hold w1 [(b,o,x),(b,p,y),(b',o',x'),(b',p',y')] W/\W.cell? ⟨b,o,none⟩=some x/\W.cell? ⟨b,p,none⟩=some y/\W.cell? ⟨b',o',none⟩=some x'/\W.cell? ⟨b',p',none⟩=some y':=⟨h,h.cell (b,o,x) (by simp),h.cell (b,p,y) (by simp),h.cell (b',o',x') (by simp),h.cell (b',p',y') (by simp)⟩
theorem Hold.yT{w1 W:World}{b b' o o' p p':Nat}{x y x' y' X Y:Value}(h:Hold w1 [(b,o,x),(b,p,y),(b',o',x'),(b',p',y')] W):Hold w1 [(b,o,x),(b,p,y),(b',o',x'),(b',p',y')] ((W.setCell ⟨w1.heap.size,0,none⟩ X).setCell ⟨w1.heap.size,1,none⟩ Y)/\((W.setCell ⟨w1.heap.size,0,none⟩ X).setCell ⟨w1.heap.size,1,none⟩ Y).cell? ⟨b,o,none⟩=some x/\((W.setCell ⟨w1.heap.size,0,none⟩ X).setCell ⟨w1.heap.size,1,none⟩ Y).cell? ⟨b,p,none⟩=some y/\((W.setCell ⟨w1.heap.size,0,none⟩ X).setCell ⟨w1.heap.size,1,none⟩ Y).cell? ⟨b',o',none⟩=some x'/\((W.setCell ⟨w1.heap.size,0,none⟩ X).setCell ⟨w1.heap.size,1,none⟩ Y).cell? ⟨b',p',none⟩=some y':=Hold.dL ((h.set (Nat.le_refl _) 0 X).set (Nat.le_refl _) 1 Y)
end Go.BI
namespace Go.BI
open Go Go.RowKit
theorem IBlk.facts{B:Nat}{w:World}{T:TypeId}{b:Nat}{xs:List (Bool×Value)}{js:List J}(h:IBlk B w T b xs js){i:Nat}(hi:i<js.length):∃s v,w.cell? ⟨b,i*2,none⟩=some (.bool s)/\w.cell? ⟨b,i*2+1,none⟩=some v/\w.frozen? ⟨b,i*2,none⟩=false/\w.frozen? ⟨b,i*2+1,none⟩=false:=by
 have hx:i<xs.length:=by rw[h.len];exact hi
 have h1:=eB (l:=xs) (i:=i) (s:=xs[i].1) (v:=xs[i].2) (by rw[List.getElem?_eq_getElem hx]);exact⟨_,_,aw h.blk _ (by simpa using h1.1),aw h.blk _ (by simpa using h1.2),cI h.blk _,cI h.blk _⟩
theorem IBlk.cast{B:Nat}{w:World}{T:TypeId}{b:Nat}{xs:List (Bool×Value)}{js js':List J}(h:IBlk B w T b xs js)(e:js=js'):IBlk B w T b xs js':=e▸h
theorem iQ{α:Type}(f:Nat->α)(z:α){k n:Nat}(h:k<n):((List.range k).map f++List.replicate (n-k) z).set k (f k)=(List.range (k+1)).map f++List.replicate (n-(k+1)) z:=by
 apply List.ext_getElem?;intro i;rw[List.getElem?_set];by_cases e:k=i
 .subst e;rw[if_pos rfl,if_pos (by simp;omega),List.getElem?_append_left (by simp)];simp
 .rw[if_neg e];rcases Nat.lt_or_ge i k with h1|h1
  .rw[List.getElem?_append_left (by simpa using h1),List.getElem?_append_left (by simp;omega)];simp[h1,Nat.lt_succ_of_lt h1]
  .rw[List.getElem?_append_right (by simpa using h1),List.getElem?_append_right (by simp;omega)];simp only[List.length_map,List.length_range,List.getElem?_replicate];by_cases h2:i<n
   .rw[if_pos (by omega),if_pos (by omega)]
   .rw[if_neg (by omega),if_neg (by omega)]
end Go.BI
namespace Go.BI
open Go Go.RowKit
theorem IBlk.yU{B:Nat}{w:World}{T:TypeId}{b:Nat}{xs:List (Bool×Value)}{js:List J}(h1:IBlk B w T b xs js){A:Option Addr}{m c:Nat}{j:J}(hx:NumN B w (.slice A m c) j.n j.z)(i:Nat)(hb:∀g,blkV (.slice A m c)=some g->g≠b)(hap:∀(k:Nat) (s:Bool) (v:Value) (g:Nat),k≠i->xs[k]?=some (s,v)->blkV v=some g->blkV (.slice A m c)≠some g):IBlk B ((w.setCell ⟨b,i*2,none⟩ (.bool j.s)).setCell ⟨b,i*2+1,none⟩ (.slice A m c)) T b (xs.set i (j.s,.slice A m c)) (js.set i j):=by
 have ho:Only b w ((w.setCell ⟨b,i*2,none⟩ (.bool j.s)).setCell ⟨b,i*2+1,none⟩ (.slice A m c)):=((Only.refl _ _).set _ _).set _ _;refine⟨?_,by rw[List.length_set,List.length_set,h1.len],?_,?_⟩
 .simp only[World.setCell,Array.getElem?_modify,h1.blk];simp only[if_true,Option.map_some,<-pV];simp
 .intro k s v q hk hq;by_cases e:i=k
  .subst e;rw[List.getElem?_set]at hk hq;simp only[if_true]at hk hq;split at hk
   .split at hq
    .cases hk;cases hq;refine⟨rfl,A,m,c,rfl,(hx.fG ho ?_),hb⟩;intro g o e hm;exact hb g (by subst e;cases m with|zero=>omega|succ m'=>rfl)
    .cases hq
   .cases hk
  .rw[List.getElem?_set_ne e]at hk hq;obtain⟨e1,A',m',c',rfl,hn,hg⟩:=h1.at_ k s v q hk hq;refine⟨e1,A',m',c',rfl,hn.fG ho ?_,hg⟩;intro g o e hm;exact hg g (by subst e;cases m' with|zero=>omega|succ m'=>rfl)
 .intro k l s v t u g hkl hk hl hg;by_cases e:i=k
  .subst e;rw[List.getElem?_set_ne hkl]at hl;rw[List.getElem?_set]at hk;simp only[if_true]at hk;split at hk
   .cases hk;exactλhu=>hap l t u g (λe=>hkl e.symm) hl hu hg
   .cases hk
  .by_cases e2:i=l
   .subst e2;rw[List.getElem?_set_ne e]at hk;rw[List.getElem?_set]at hl;simp only[if_true]at hl;split at hl
    .cases hl;exact hap k s v g hkl hk hg
    .cases hl
   .rw[List.getElem?_set_ne e]at hk;rw[List.getElem?_set_ne e2]at hl;exact h1.apart k l s v t u g hkl hk hl hg
theorem IBlk.only{B b':Nat}{w w':World}{T:TypeId}{b:Nat}{xs:List (Bool×Value)}{js:List J}(h:IBlk B w T b xs js)(ho:Only b' w w')(hb:b≠b')(hn:∀(i:Nat) (s:Bool) (v:Value),xs[i]?=some (s,v)->blkV v≠some b'):IBlk B w' T b xs js:=
 ⟨(ho.block b hb).trans h.blk,h.len,λi s v j hx hj=>by
  obtain⟨e,A,m,c,rfl,hN,hg⟩:=h.at_ i s v j hx hj;refine⟨e,A,m,c,rfl,hN.fG ho ?_,hg⟩;intro g o e hm e2;subst e2;refine hn i s _ hx ?_;subst e;cases m with
  |zero=>omega
  |succ m'=>rfl,h.apart⟩
theorem IBlk.single{B:Nat}{w:World}(T:TypeId){A:Option Addr}{m c:Nat}{j:J}(h:NumN B w (.slice A m c) j.n j.z):IBlk B (w.alloc (.cells #[.bool j.s,.slice A m c] T)) T w.heap.size [(j.s,.slice A m c)] [j]:=by
 refine⟨by unfold World.alloc;simp[icells],rfl,λi s v q hx hj=>?_,λi k s v t u g hik hi hk _=>?_⟩
 .cases i with
  |zero=>cases hx;cases hj;refine⟨rfl,A,m,c,rfl,h.below (ax _ _),λg hg=>?_⟩;obtain⟨_,_,_,hlt⟩:=fy h.num hg;omega
  |succ i=>cases hx
 .cases i with
  |zero=>cases k with
   |zero=>exact absurd rfl hik
   |succ k=>cases hk
  |succ i=>cases hi
end Go.BI
namespace Go.BI
open Go Go.RowKit
theorem IBlk.mono{B B':Nat}{w:World}{T:TypeId}{b:Nat}{xs:List (Bool×Value)}{js:List J}(h:IBlk B w T b xs js)(hB:B'<=B):IBlk B' w T b xs js:=⟨h.blk,h.len,λi s v j hx hj=>let ⟨e,A,m,c,e2,hn,hg⟩:=h.at_ i s v j hx hj;⟨e,A,m,c,e2,hn.mono hB,hg⟩,h.apart⟩
theorem fH{n:Int}(h1:-9223372036854775808<=n)(h2:n<9223372036854775808):(jOf n).n<18446744073709551616:=by
 cases n with
 |ofNat k=>show k<_;have:Int.ofNat k=(k:Int):=rfl;omega
 |negSucc k=>show Nat.succ k<_;omega
end Go.BI
namespace Go.BI
open Go Go.RowKit
theorem yV{w:World}{A:Option Addr}{m c:Nat}{z:Bool}(h:Num w (.slice A m c) 0 z):blkV (.slice A m c)=none:=by obtain⟨A',m',c',e,hd,_⟩:=h.is;cases e;have hm:m=0:=hd.len.symm;subst hm;cases A<;>rfl
theorem IBlk.yW{B:Nat}{w:World}{T:TypeId}{b n:Nat}{xs:List (Bool×Value)}(h:IBlk B w T b xs (List.replicate n J.null)){i:Nat}{s:Bool}{v:Value}(hi:xs[i]?=some (s,v)):blkV v=none:=by have hl:=(List.getElem?_eq_some_iff.1 hi).1;rw[h.len]at hl;obtain⟨_,A,m,c,rfl,hn,_⟩:=h.at_ i s v J.null hi (by rw[List.getElem?_replicate,if_pos (by simpa using hl)]);exact yV hn.num
theorem IBlk.fresh{B:Nat}{w:World}{T:TypeId}{b:Nat}{xs:List (Bool×Value)}{js:List J}(h:IBlk B w T b xs js){i:Nat}{s:Bool}{v:Value}(hi:xs[i]?=some (s,v)){g:Nat}(hg:blkV v=some g):B<=g:=by have hl:=(List.getElem?_eq_some_iff.1 hi).1;rw[h.len]at hl;obtain⟨_,A,m,c,rfl,hn,_⟩:=h.at_ i s v js[i] hi (List.getElem?_eq_getElem hl);obtain⟨o,e,hm,_⟩:=fy hn.num hg;exact hn.fresh g o e hm
theorem IBlk.elem{B:Nat}{w:World}{T:TypeId}{b:Nat}{xs:List (Bool×Value)}{js:List J}(h:IBlk B w T b xs js){i:Nat}(hi:i<js.length):∃A m c,xs[i]?=some (js[i].s,.slice A m c)/\NumN B w (.slice A m c) js[i].n js[i].z/\w.cell? ⟨b,i*2,none⟩=some (.bool js[i].s)/\w.cell? ⟨b,i*2+1,none⟩=some (.slice A m c):=by
 have hx:i<xs.length:=by rw[h.len];exact hi
 obtain⟨e,A,m,c,e2,hn,_⟩:=h.at_ i xs[i].1 xs[i].2 js[i] (by rw[List.getElem?_eq_getElem hx]) (List.getElem?_eq_getElem hi);have h0:xs[i]?=some (js[i].s,.slice A m c):=by rw[List.getElem?_eq_getElem hx,<-e,<-e2]
 have h1:=eB h0;exact⟨A,m,c,h0,hn,aw h.blk _ (by simpa using h1.1),aw h.blk _ (by simpa using h1.2)⟩
end Go.BI
namespace Go.BI
open Go Go.RowKit
theorem iR{W:World}{g o o' b q:Nat}{X Y v:Value}(h:W.cell? ⟨b,q,none⟩=some v)(hb:b≠g):((W.setCell ⟨g,o,none⟩ X).setCell ⟨g,o',none⟩ Y).cell? ⟨b,q,none⟩=some v:=(World.cell?_of_block ((((Only.refl g W).set o X).set o' Y).block b hb)).trans h
end Go.BI
namespace Go.BI
open Go Go.RowKit Go.Proofs
def tFst(a:J)(l:List J):Nat->Option J
 |0=>some (jOf 0)
 |k+1=>match l[k]? with
  |some p=>jMul a p
  |none=>none
def tAdd(b:J)(l:List J)(i:Nat)(x:J):Option J:=
 match l[i]? with
 |some q=>(jMul b q).bind λy=>jAdd x y
 |none=>some x
def tEl(a b:J)(l:List J)(i:Nat):Option J:=(tFst a l i).bind (tAdd b l i)
theorem yX(n:Nat):madeCells (Value.agg #[.bool false,.slice none 0 0]).cells (n*2)=(icells (List.replicate n (false,.slice none 0 0))).toArray:=by
 apply Array.ext
 .simp[madeCells,pU]
 .intro i h1 h2;simp only[List.getElem_toArray];have hi:i<n*2:=by simpa [madeCells]using h1
  obtain⟨k,rfl|rfl⟩:∃k,i=k*2\/i=k*2+1:=⟨i/2,by omega⟩
  .have:=(eB (l:=List.replicate n (false,Value.slice none 0 0)) (i:=k) (s:=false) (v:=.slice none 0 0) (by rw[List.getElem?_replicate,if_pos (by omega)])).1;rw[List.getElem?_eq_some_iff]at this;rw[this.choose_spec];simp[madeCells,Value.cells]
  .have:=(eB (l:=List.replicate n (false,Value.slice none 0 0)) (i:=k) (s:=false) (v:=.slice none 0 0) (by rw[List.getElem?_replicate,if_pos (by omega)])).2;rw[List.getElem?_eq_some_iff]at this;rw[this.choose_spec];simp[madeCells,Value.cells,Nat.add_mod]
theorem yY:(Tryz.prog.info? 50).map (λi=>(i.zero,i.size,i.bytes))=some (some (.agg #[.bool false,.slice none 0 0]),2,32):=by kernel_rfl
theorem pW(w:World)(n:Nat)(h:n<=1000001):(Instr.makeSlice 31 (.int .i64 (n:Int)) (.int .i64 (n:Int))).run Tryz.prog w=.ok (.slice (some ⟨w.heap.size,0,none⟩) n n) (w.alloc (.cells (icells (List.replicate n (false,.slice none 0 0))).toArray 50)):=by obtain⟨i,hi,hz,hs,hb⟩:=info_parts yY;have hr:=run_makeSlice (P:=Tryz.prog) w 31 50 i (.agg #[.bool false,.slice none 0 0]) Tryz.underlying31 hi hz .i64 .i64 n n (by omega) (Int.le_refl _) (by rw[hs,Int.toNat_natCast];omega) (by rw[hb];omega) (by omega);rw[hs,Int.toNat_natCast,yX]at hr;exact hr
theorem IBlk.pX(w:World)(T:TypeId)(n B:Nat):IBlk B (w.alloc (.cells (icells (List.replicate n (false,.slice none 0 0))).toArray T)) T w.heap.size (List.replicate n (false,.slice none 0 0)) (List.replicate n J.null):=by
 refine⟨by unfold World.alloc;simp,by simp,λi s v j hx hj=>?_,λi k s v t u g _ hi _ hg=>?_⟩
 .rw[List.getElem?_replicate]at hx hj;by_cases h:i<n
  .rw[if_pos h]at hx hj;cases hx;cases hj;exact⟨rfl,none,0,0,rfl,NumN.nil _ _,λg hg=>by cases hg⟩
  .rw[if_neg h]at hx;cases hx
 .rw[List.getElem?_replicate]at hi;by_cases h:i<n
  .rw[if_pos h]at hi;cases hi;cases hg
  .rw[if_neg h]at hi;cases hi
end Go.BI
namespace Go.Ex
open Go Go.BI
variable{P:Program}{ρ ρ' ρ1:Rho}{ω:Nat->Value}{H H1:AH}{w w':World}
theorem lu(v:Value):blkV v=blkOf v:=by
 cases v with
 |slice A m c=>cases A with
  |none=>rfl
  |some a=>cases m<;>rfl
 |_=>rfl
def isNull(j:J):Bool:=!j.s&&(Nat.beq j.n 0&&j.z)
theorem lG{j:J}(h:isNull j=true):j=J.null:=by
 obtain⟨s,n,z⟩:=j;unfold isNull at h;simp only[Bool.and_eq_true]at h;obtain⟨h1,h2,h3⟩:=h;have:=Nat.eq_of_beq_eq_true h2;subst this;cases s with
 |true=>cases h1
 |false=>cases z with
  |false=>cases h3
  |true=>rfl
def rowNull:List AVal:=[.bool false,.snil]
def giveI:List J->Nat->T8 (List AVal)->AH->(T8 (List AVal)->AH->R)->R
 |[],_,els,H,c=>c els H
 |j::l,k,els,H,c=>bif isNull j then giveI l (Nat.succ k) els H c else putK H j.n j.z λx H'=>giveI l (Nat.succ k) (els.put [] [.bool j.s,x] (key k)) H' c
structure Laid(ρ:Rho)(ω:Nat->Value)(xs:List (Bool×Value))(k:Nat)(els:T8 (List AVal)):Prop where
 done:∀m s v,m<k->xs[m]?=some (s,v)->All2 (VR ρ ω) (Go.Ex.elem m rowNull els) [.bool s,v]
 rest:∀m,k<=m->els.get [] (key m)=[]
theorem lH{l:List AVal}{vs:List Value}(h:All2 (VR ρ ω) l vs)(hs:Sub ρ ρ'):All2 (VR ρ' ω) l vs:=by
 induction h with
 |nil=>exact .nil
 |cons hx _ ih=>exact .cons (hx.mono hs) ih
theorem Laid.mono{xs:List (Bool×Value)}{k:Nat}{els:T8 (List AVal)}(h:Laid ρ ω xs k els)(hs:Sub ρ ρ'):Laid ρ' ω xs k els:=⟨λm s v hm hx=>lH (h.done m s v hm hx) hs,h.rest⟩
theorem Laid.start(ρ:Rho)(ω:Nat->Value)(xs:List (Bool×Value)):Laid ρ ω xs 0 .nil:=⟨λm s v hm=>absurd hm (by omega),λm _=>get_nil [] _⟩
theorem y9{T:TypeId}{g:Nat}{xs:List (Bool×Value)}{js:List J}(hI:IBlk w.heap.size w' T g xs js)(l:List J):∀{k:Nat} {ρ1:Rho} {H1:AH} {els:T8 (List AVal)} {c:T8 (List AVal)->AH->R} {x:AVal} {Hr:AH},js.drop k=l->Step P ρ ω H w ρ1 H1 w'->Laid ρ1 ω xs k els->(∀m s v b,k<=m->xs[m]?=some (s,v)->blkV v=some b->NoObj ρ1 H1 b)->NoObj ρ1 H1 g->giveI l k els H1 c=.ok x Hr->∃els2 H2 ρ2,c els2 H2=.ok x Hr/\Step P ρ ω H w ρ2 H2 w'/\(∀m s v,m<js.length->xs[m]?=some (s,v)->All2 (VR ρ2 ω) (Go.Ex.elem m rowNull els2) [.bool s,v])/\NoObj ρ2 H2 g:=by
 induction l with
 |nil=>intro k ρ1 H1 els c x Hr hd hs hl hno hg h;refine⟨els,H1,ρ1,h,hs,λm s v hm hx=>hl.done m s v ?_ hx,hg⟩;have:=List.drop_eq_nil_iff.1 hd;omega
 |cons j l ih=>
  intro k ρ1 H1 els c x Hr hd hs hl hno hg h
  have hk:k<js.length:=by
   rcases Nat.lt_or_ge k js.length with h1|h1
   .exact h1
   .rw[List.drop_eq_nil_of_le h1]at hd;cases hd
  have hj:js[k]?=some j:=by have:=congrArg (λq=>q[0]?) hd;simpa [List.getElem?_drop]using this
  have hd':js.drop (k+1)=l:=by rw[<-List.drop_drop,hd];rfl
  have hx:∃s v,xs[k]?=some (s,v):=⟨xs[k]'(by rw[hI.len];exact hk) |>.1,_,List.getElem?_eq_getElem _⟩;obtain⟨s,v,hxk⟩:=hx;obtain⟨es,A,m,c',rfl,hN,hgb⟩:=hI.at_ k s v j hxk hj;unfold giveI at h;cases hn:isNull j with
  |true=>
   rw[hn]at h;have e:=lG hn;subst e;refine ih hd' hs ⟨λq t u hq hxq=>?_,λq hq=>hl.rest q (by omega)⟩ (λq t u b hq=>hno q t u b (by omega)) hg h;rcases Nat.lt_or_ge q k with h1|h1
   .exact hl.done q t u h1 hxq
   .have:q=k:=by have:Nat.succ k=k+1:=rfl;omega
    subst this;rw[hxk]at hxq;cases hxq;have e1:Go.Ex.elem q rowNull els=rowNull:=by unfold Go.Ex.elem;rw[hl.rest q (Nat.le_refl _)];rfl
    rw[e1,es];obtain⟨h2,_⟩:=Num.oV hN.num;rw[h2 rfl];exact .cons (.bool _) (.cons .snil .nil)
  |false=>
   rw[hn]at h;simp only[cond]at h;obtain⟨y,H2,ρ2,h2,hv,_,hs2,hsub,hno2⟩:=oW hs hN (λb hb=>hno k s _ b (Nat.le_refl _) hxk (by rw[lu];exact hb)) h;refine ih hd' hs2 ⟨λq t u hq hxq=>?_,λq hq=>?_⟩ (λq t u b hq hxq hb=>?_) ?_ h2
   .rcases Nat.lt_or_ge q k with h1|h1
    .rw[dT (by omega)];exact lH (hl.done q t u h1 hxq) hsub
    .have:q=k:=by have:Nat.succ k=k+1:=rfl;omega
     subst this;rw[hxk]at hxq;cases hxq;rw[jD,bE (by simp),es];exact .cons (.bool _) (.cons hv .nil)
   .rw[aG _ _ (λe=>by have:=key_inj e;have:Nat.succ k=k+1:=rfl;omega)];exact hl.rest q (by have:Nat.succ k=k+1:=rfl;omega)
   .refine hno2 b (hno q t u b (by have:Nat.succ k=k+1:=rfl;omega) hxq hb) ?_;rw[<-lu];exactλe=>hI.apart q k t u s _ b (by have:Nat.succ k=k+1:=rfl;omega) hxq hxk hb e
   .refine hno2 g hg ?_;rw[<-lu];exactλe=>hgb g e rfl
end Go.Ex
namespace Go.Ex
open Go Go.BI
variable{P:Program}{ρ ρ' ρ1:Rho}{ω:Nat->Value}{H H1:AH}{w w':World}
theorem lI(hr:HR P ρ ω H w){id:Pth}{i:BI}(hi:ρ id=some i){off:Nat}{v:AVal}(h:loadAt H false 1 id off=v)(hv:v≠.bad):∃u,w.cell? ⟨i.blk,i.base+off,none⟩=some u/\VR ρ ω v u/\i.blk<w.heap.size:=by
 have hok:=hr.ok id
 have gen:∀{i:BI} {off:Nat} {esz n:Nat} {d:List AVal} {els:T8 (List AVal)} {c:Array Value} {T:TypeId} {fz:Nat×Nat},w.heap[i.blk]?=some (.cells c T fz)->ArrOk ρ ω c i esz n d els->cellsAt false 1 esz n d els off=v->∃u,w.cell? ⟨i.blk,i.base+off,none⟩=some u/\VR ρ ω v u/\i.blk<w.heap.size:=by
  intro i off esz n d els c T fz hb ha hc;unfold cellsAt at hc;cases hj:Nat.blt (Nat.div off esz) n with
  |false=>rw[hj]at hc;exact absurd hc.symm hv
  |true=>
   rw[hj]at hc;obtain⟨l,hl,hr2⟩:=jE hc hv;obtain⟨vs,h1,h2,h3,h4⟩:=ha.part hj hl;rcases hr2 with⟨e,_⟩|⟨_,rfl⟩
   .cases e
   .obtain⟨u,hu,hvu⟩:=h1.get 0 v rfl;have h5:=h4 0 u hu;simp only[Nat.add_zero]at h5;exact⟨u,by rw[cW hb];exact h5,hvu,(Array.getElem?_eq_some_iff.1 hb).1⟩
 rw[mz]at h;clear hok;generalize 100=f at h
 induction f generalizing id i off with
 |zero=>exact absurd h.symm hv
 |succ f ih=>
 have hok:=hr.ok id;unfold loadF at h;cases ho:H.m.get .dead id with
 |arr esz n d els=>rw[ho]at hok h;obtain⟨i',c,T,hi',hc,ha⟩:=hok;rw[hi]at hi';cases hi';exact gen hc ha h
 |ro esz n d els=>rw[ho]at hok h;obtain⟨i',c,T,fz,hi',hc,ha⟩:=hok;rw[hi]at hi';cases hi';exact gen hc ha h
 |dead=>rw[ho]at h;exact absurd h.symm hv
 |lp _ _ _ _ _=>rw[ho]at h;exact absurd h.symm hv
 |mp _=>rw[ho]at h;exact absurd h.symm hv
 |fwd to esz n d els=>
  rw[ho]at hok h;simp only at h;cases he:(loadF H false 1 f to off).eqv (cellsAt false 1 esz n d els off)with
  |false=>rw[he]at h;exact absurd h.symm hv
  |true=>
   rw[he]at h;have h:cellsAt false 1 esz n d els off=v:=h;obtain⟨i',hi',hc⟩:=hok;rw[hi]at hi';cases hi';rcases hc with⟨j,hj,e1,e2⟩|⟨c,hc,ha⟩
   .have:=ih hj ((eR he).trans h);rw[e1,e2]at this;exact this
   .obtain⟨⟨T,hT⟩,_⟩:=hr.num _ _ hc;exact gen hT ha h
def slcOf:AVal->Option (Pth×Nat×Nat)
 |.sl id off len cap=>bif Nat.ble len cap then some (id,off,len)else none
 |.sg id off len _=>some (id,off,len)
 |_=>none
theorem y_{x:AVal}{v:Value}(hx:VR ρ ω x v){id:Pth}{off len:Nat}(h:slcOf x=some (id,off,len)):∃i c,ρ id=some i/\v=.slice (some ⟨i.blk,i.base+off,none⟩) len c/\len<=c:=by
 cases hx with
 |sl id' off' len' cap i hi=>
  have h:(bif Nat.ble len' cap then some (id',off',len')else none)=some (id,off,len):=h;cases hb:Nat.ble len' cap with
  |false=>rw[hb]at h;cases h
  |true=>rw[hb]at h;cases h;exact⟨i,cap,hi,rfl,Nat.le_of_ble_eq_true hb⟩
 |sg id off len esz cap i hi hl hlim=>cases h;exact⟨i,cap,hi,rfl,hl⟩
 |_=>cases h
def natI:AVal->Option Nat
 |.int .i64 (.ofNat n)=>some n
 |_=>none
def intI:AVal->Option Int
 |.int .i64 n=>some n
 |_=>none
theorem eC{x:AVal}{n:Nat}(h:natI x=some n):x=.int .i64 (n:Int):=by
 unfold natI at h;split at h
 .cases h;rfl
 .cases h
theorem fI{x:AVal}{n:Int}(h:intI x=some n):x=.int .i64 n:=by
 unfold intI at h;split at h
 .cases h;rfl
 .cases h
theorem aZ{k:IntKind}{n:Int}{v:Value}(h:VR ρ ω (.int k n) v):v=.int k n:=by cases h;rfl
def inI(n:Int):Bool:=match n with
 |.ofNat m=>Nat.blt m 9223372036854775808
 |.negSucc m=>Nat.blt m 9223372036854775808
theorem cJ{n:Int}(h:inI n=true):-9223372036854775808<=n/\n<9223372036854775808:=by
 cases n with
 |ofNat m=>have h:Nat.blt m 9223372036854775808=true:=h;have:=au h;have e:Int.ofNat m=(m:Int):=rfl;omega
 |negSucc m=>have h:Nat.blt m 9223372036854775808=true:=h;have:=au h;omega
end Go.Ex
namespace Go.Ex
open Go Go.BI
variable{P:Program}{ρ ρ' ρ1:Rho}{ω:Nat->Value}{H H1:AH}{w w':World}
def magV(n:Nat)(z:Bool):AVal:=bif Nat.beq n 0 then(bif z then .snil else .se)else .mag n
def rowJ(j:J):List AVal:=[.bool j.s,magV j.n j.z]
theorem zk{n:Nat}(h:n<18446744073709551616)(z:Bool)(k:AVal->AH->R):putK H n z k=k (magV n z) H:=by
 unfold putK magV;cases Nat.beq n 0 with
 |true=>rfl
 |false=>rw[show Nat.blt n 18446744073709551616=true from Nat.ble_eq_true_of_le h];rfl
def putsI:List J->Nat->T8 (List AVal)->T8 (List AVal)
 |[],_,e=>e
 |j::l,k,e=>putsI l (Nat.succ k) (bif isNull j then e else e.put [] (rowJ j) (key k))
theorem zm(l:List J):∀{k:Nat} {els:T8 (List AVal)} {c:T8 (List AVal)->AH->R},(∀j∈l,j.n<18446744073709551616)->giveI l k els H c=c (putsI l k els) H:=by
 induction l with
 |nil=>intro k els c _;rfl
 |cons j l ih=>
  intro k els c hl;unfold giveI putsI;cases isNull j with
  |true=>exact ih λj hj=>hl j (List.mem_cons_of_mem _ hj)
  |false=>simp only[cond];rw[zk (hl j (List.mem_cons_self ..))];exact ih λj hj=>hl j (List.mem_cons_of_mem _ hj)
theorem zn(l:List J):∀{k:Nat} {els:T8 (List AVal)} {m:Nat},m<k\/k+l.length<=m->(putsI l k els).get [] (key m)=els.get [] (key m):=by
 induction l with
 |nil=>intro k els m _;rfl
 |cons j l ih=>
  intro k els m hm;unfold putsI;rw[ih (by simp only[List.length_cons]at hm;have:Nat.succ k=k+1:=rfl;omega)];cases isNull j with
  |true=>rfl
  |false=>exact aG _ _ (λe=>by have:=key_inj e;simp only[List.length_cons]at hm;omega) _
theorem zo(l:List J):∀{k:Nat} {els:T8 (List AVal)} {m:Nat} (h:m<l.length),(∀q,k<=q->els.get [] (key q)=[])->Go.Ex.elem (k+m) rowNull (putsI l k els)=rowJ l[m]:=by
 induction l with
 |nil=>intro k els m h;cases h
 |cons j l ih=>
  intro k els m h he;unfold putsI;cases m with
  |succ m=>
   have:=ih (k:=Nat.succ k) (els:=bif isNull j then els else els.put [] (rowJ j) (key k)) (m:=m) (by simpa using h) λq hq=>by
    cases isNull j with
    |true=>exact he q (by have:Nat.succ k=k+1:=rfl;omega)
    |false=>rw[show(bif false then els else els.put [] (rowJ j) (key k))=els.put [] (rowJ j) (key k)from rfl,aG _ _ (λe=>by have:=key_inj e;have:Nat.succ k=k+1:=rfl;omega)];exact he q (by have:Nat.succ k=k+1:=rfl;omega)
   rw[show k+(m+1)=Nat.succ k+m by have:Nat.succ k=k+1:=rfl;omega];exact this
  |zero=>
   unfold Go.Ex.elem;rw[Nat.add_zero,zn l (.inl (by have:Nat.succ k=k+1:=rfl;omega))];cases hn:isNull j with
   |true=>rw[show(bif true then els else els.put [] (rowJ j) (key k))=els from rfl,he k (Nat.le_refl _),lG hn];rfl
   |false=>rw[show(bif false then els else els.put [] (rowJ j) (key k))=els.put [] (rowJ j) (key k)from rfl,aL];rfl
theorem zp{f:Nat}{n:List AVal->AH->R}(hf:∃fn,P.funcs[f]?=some fn/\(fn.name== "runtime.NumGoroutine")=false/\fn.body.isNone=false)
 (hc:∀(ρ:Rho) (args:List AVal) (H:AH) (w:World) (vals:List Value) (v:AVal) (H':AH),HR P ρ ω H w->All2 (VR ρ ω) args vals->n args H=.ok v H'->
  ∃js els T,v=.sg H.next 0 js.length 2/\H'=H.add (.arr 2 js.length rowNull els)/\(∀m (h:m<js.length),Go.Ex.elem m rowNull els=rowJ js[m])/\(∀j∈js,j.n<18446744073709551616)/\
   Calls P f vals.toArray w λe w'=>(∃g xs,e=.returned (.slice (some ⟨g,0,none⟩) js.length js.length)/\w.heap.size<=g/\IBlk w.heap.size w' T g xs js)/\RowKit.Below w.heap.size w w'):OrcOk P ω f (natK n):=by
 intro args H v H' ρ w vals hone hr hg hv;obtain⟨fn,h1,h2,h3⟩:=hf;refine⟨fn,h1,h2,h3,?_⟩;have hn:n args H=.ok v H':=hone;obtain⟨js,els,T,rfl,rfl,hel,hjs,hC⟩:=hc ρ args H w vals v H' hr hv hn;refine(callsIn_wide.2 hC).mono ?_;rintro e w' ⟨⟨g,xs,rfl,hgb,hI⟩,hb⟩
 classical
 obtain⟨els2,H2,ρ2,k1,k2,k3,k4⟩:=y9 (ω:=ω) hI js (k:=0) (els:=.nil) (c:=λe H=>if e=putsI js 0 .nil then R.ok .pnil H else .no) rfl (Step.grow hr hb) (Laid.start _ _ _) (λm s v b _ hm hb=>hr.iq (hI.fresh hm hb)) (hr.iq hgb) (by rw[zm js hjs,if_pos rfl])
 have hk:els2=putsI js 0 .nil/\H2=H:=by
  by_cases e:els2=putsI js 0 .nil
  .simp only[if_pos e]at k1;cases k1;exact⟨e,rfl⟩
  .simp only[if_neg e]at k1;cases k1
 obtain⟨rfl,rfl⟩:=hk;refine⟨ext ρ2 H2.next ⟨g,0,js.length*2⟩,?_,k2.put (i:=⟨g,0,js.length*2⟩) hgb k4 ?_⟩
 .exact .sg H2.next 0 js.length 2 js.length ⟨g,0,js.length*2⟩ (ad _ _ _) (Nat.le_refl _) (by show 0+js.length*2<=js.length*2;omega)
 .refine⟨⟨g,0,js.length*2⟩,_,T,ad _ _ _,hI.blk,Nat.le_refl _,?_,λm hm=>?_⟩
  .show 0+js.length*2<=_;simp[pU,hI.len]
  .have hx:m<xs.length:=by rw[hI.len];exact hm
   have hxm:xs[m]?=some (xs[m].1,xs[m].2):=List.getElem?_eq_getElem hx;obtain⟨e,A,mm,c',e2,hN,_⟩:=hI.at_ m _ _ js[m] hxm (List.getElem?_eq_getElem hm);have h3:=k3 m _ _ hm hxm;have h4:=zo js (k:=0) (els:=.nil) hm (λq _=>get_nil [] _);rw[Nat.zero_add]at h4;rw[h4,<-hel m hm]at h3;refine⟨[.bool xs[m].1,xs[m].2],lH h3 (bh k2.hr _),rfl,λv hv=>?_,λq v hq=>?_⟩
   .rcases List.mem_cons.1 hv with rfl|hv
    .rfl
    .have:v=xs[m].2:=by simpa using hv
     rw[this,e2];rfl
   .have h5:=eB hxm
    match q,hq with
    |0,hq=>cases hq;simpa using h5.1
    |1,hq=>cases hq;simpa using h5.2
    |q+2,hq=>cases hq
end Go.Ex
namespace Go.Ex
open Go Go.RowKit Go.Proofs Go.BI
variable{w w':World}
theorem jv{a:Nat}{z:Bool}{v:Value}(h:AtomV w (.n a z) v):∃A m c,v=.slice A m c/\Num w (.slice A m c) a z/\a<18446744073709551616:=by
 cases h with
 |n h hl=>obtain⟨A,m,c,rfl,_⟩:=h.is;exact⟨A,m,c,rfl,h,hl⟩
theorem cO{s:Bool}{a:Nat}{z:Bool}{v:Value}(h:PartV w (.agg [.b s,.n a z]) v):∃A m c,v=.agg #[.bool s,.slice A m c]/\Num w (.slice A m c) a z/\a<18446744073709551616:=by
 cases h with
 |agg h=>
  cases h with
  |cons h1 t=>
   cases h1;cases t with
   |cons h2 t2=>cases t2;obtain⟨A,m,c,rfl,hn,hl⟩:=jv h2;exact⟨A,m,c,rfl,hn,hl⟩
theorem jw{s s':Bool}{a a':Nat}{z z':Bool}{v:Value}(h:PartV w (.agg [.b s,.n a z,.b s',.n a' z']) v):∃A m c A' m' c',v=.agg #[.bool s,.slice A m c,.bool s',.slice A' m' c']/\Num w (.slice A m c) a z/\Num w (.slice A' m' c') a' z'/\a<18446744073709551616/\a'<18446744073709551616:=by
 cases h with
 |agg h=>
  cases h with
  |cons h1 t=>
   cases h1;cases t with
   |cons h2 t2=>
    cases t2 with
    |cons h3 t3=>
     cases h3;cases t3 with
     |cons h4 t4=>cases t4;obtain⟨A,m,c,rfl,hn,hl⟩:=jv h2;obtain⟨A',m',c',rfl,hn',hl'⟩:=jv h4;exact⟨A,m,c,A',m',c',rfl,hn,hn',hl,hl'⟩
theorem dr{R:Part->Value->Prop}{p:Part}{vals:List Value}(h:All2 R [p] vals):∃v,vals=[v]/\R p v:=by
 cases h with
 |cons h t=>cases t;exact⟨_,rfl,h⟩
theorem fX{R:Part->Value->Prop}{p q:Part}{vals:List Value}(h:All2 R [p,q] vals):∃v u,vals=[v,u]/\R p v/\R q u:=by
 cases h with
 |cons h t=>cases t with
  |cons h2 t=>cases t;exact⟨_,_,rfl,h,h2⟩
theorem jx{k:IntKind}{n:Int}{v:Value}(h:PartV w (.one (.i k n)) v):v=.int k n:=by
 cases h with
 |one h=>cases h;rfl
theorem rM{A:Option Addr}{m c n b:Nat}{z:Bool}(h:Num w (.slice A m c) n z)(hb:blkOf (.slice A m c)=some b):∃o,A=some ⟨b,o,none⟩/\0<m:=by
 cases A with
 |none=>cases hb
 |some a=>
  cases m with
  |zero=>cases hb
  |succ m=>obtain⟨g,o,e,_⟩:=h.digs.cells (by omega);cases e;simp only[blkOf,Option.some.injEq]at hb;subst hb;exact⟨o,rfl,by omega⟩
theorem l7{r:J}{e:Ending}(h:MakesJ r w e w'):(∃v,e=.returned v/\ResN w.heap.size w' (.one (jP r)) v)/\RowKit.Below w.heap.size w w':=by
 obtain⟨⟨A,m,c,rfl,hn⟩,hb⟩:=h;refine⟨⟨_,rfl,?_⟩,hb⟩;refine .one (PartN.agg (vs:=[.bool r.s,.slice A m c]) (.cons (.b _) (.cons (.n hn) .nil))) ?_;refine .cons ?_ (.cons ?_ .nil)
 .intro v _ b hb;cases hb
 .intro v hv;cases hv
theorem aT{r:Q}{e:Ending}(h:MakesQ r w e w'):(∃v,e=.returned v/\ResN w.heap.size w' (.one (qP r)) v)/\RowKit.Below w.heap.size w w':=by
 obtain⟨⟨A,m,c,A',m',c',rfl,hn,hn',hap⟩,hb⟩:=h;refine⟨⟨_,rfl,?_⟩,hb⟩;refine .one (PartN.agg (vs:=[.bool r.num.s,.slice A m c,.bool r.den.s,.slice A' m' c']) (.cons (.b _) (.cons (.n hn) (.cons (.b _) (.cons (.n hn') .nil))))) ?_;refine .cons ?_ (.cons ?_ (.cons ?_ (.cons ?_ .nil)))
 .intro v _ b hb;cases hb
 .intro v hv b hb hb';have:v=.bool r.den.s\/v=.slice A' m' c':=by simpa using hv
  rcases this with rfl|rfl
  .cases hb'
  .obtain⟨o,e1,h1⟩:=rM hn.num hb;obtain⟨o',e2,h2⟩:=rM hn'.num hb';exact hap _ _ _ _ e1 e2 h1 h2 rfl
 .intro v _ b hb;cases hb
 .intro v hv;cases hv
variable{P:Program}{f:Nat}
theorem rN{o:Option J}(h:ofJ o≠.no):∃r,o=some r:=by
 cases o with
 |none=>exact absurd rfl h
 |some r=>exact⟨r,rfl⟩
theorem l9{o:Option Q}(h:ofQ o≠.no):∃r,o=some r:=by
 cases o with
 |none=>exact absurd rfl h
 |some r=>exact⟨r,rfl⟩
theorem jy{F:J->J->Option J}(h:∀(s:Bool) (A:Option Addr) (m c a:Nat) (z:Bool) (t:Bool) (B:Option Addr) (m' c' b:Nat) (u:Bool) (w:World),Num w (.slice A m c) a z->a<18446744073709551616->Num w (.slice B m' c') b u->b<18446744073709551616->∀r,F ⟨s,a,z⟩ ⟨t,b,u⟩=some r->Calls P f #[.agg #[.bool s,.slice A m c],.agg #[.bool t,.slice B m' c']] w (MakesJ r w)):NatC P f (gJJ F):=by
 intro w ps vals hv hne;unfold gJJ at hne;split at hne
 .rename_i s a z t b u;obtain⟨v1,v2,rfl,h1,h2⟩:=fX hv;obtain⟨A,m,c,rfl,hn,hl⟩:=cO h1;obtain⟨B,m',c',rfl,hn',hl'⟩:=cO h2;obtain⟨r,hr⟩:=rN hne;rw[show gJJ F [.agg [.b s,.n a z],.agg [.b t,.n b u]]=ofJ (F ⟨s,a,z⟩ ⟨t,b,u⟩)from rfl,hr];exact(h s A m c a z t B m' c' b u w hn hl hn' hl' r hr).mono λe w' h=>l7 h
 .exact absurd rfl hne
theorem rO{F:J->Option J}(h:∀(s:Bool) (A:Option Addr) (m c a:Nat) (z:Bool) (w:World),Num w (.slice A m c) a z->a<18446744073709551616->∀r,F ⟨s,a,z⟩=some r->Calls P f #[.agg #[.bool s,.slice A m c]] w (MakesJ r w)):NatC P f (gJ F):=by
 intro w ps vals hv hne;unfold gJ at hne;split at hne
 .rename_i s a z;obtain⟨v1,rfl,h1⟩:=dr hv;obtain⟨A,m,c,rfl,hn,hl⟩:=cO h1;obtain⟨r,hr⟩:=rN hne;rw[show gJ F [.agg [.b s,.n a z]]=ofJ (F ⟨s,a,z⟩)from rfl,hr];exact(h s A m c a z w hn hl r hr).mono λe w' h=>l7 h
 .exact absurd rfl hne
theorem Bq{F:J->Int}(h:∀(s:Bool) (A:Option Addr) (m c a:Nat) (z:Bool) (w:World),Num w (.slice A m c) a z->a<18446744073709551616->Calls P f #[.agg #[.bool s,.slice A m c]] w (λe w'=>e=.returned (.int .i64 (F ⟨s,a,z⟩))/\RowKit.Below w.heap.size w w')):NatC P f (gJi F):=by
 intro w ps vals hv hne;unfold gJi at hne;split at hne
 .rename_i s a z;obtain⟨v1,rfl,h1⟩:=dr hv;obtain⟨A,m,c,rfl,hn,hl⟩:=cO h1;rw[show gJi F [.agg [.b s,.n a z]]=.one (.one (.i .i64 (F ⟨s,a,z⟩)))from rfl];exact(h s A m c a z w hn hl).mono λe w' h=>⟨⟨_,h.1,.one (.one (.i _ _)) (.cons (λ_ h=>(by cases h)) .nil)⟩,h.2⟩
 .exact absurd rfl hne
theorem jA{n:Int}(h:smallI n=true):-9223372036854775808<=n/\n<9223372036854775808:=by
 cases n with
 |ofNat m=>have:m<9223372036854775808:=Nat.le_of_ble_eq_true h;constructor<;>simp<;>omega
 |negSucc m=>have:m<9223372036854775808:=Nat.le_of_ble_eq_true h;constructor<;>omega
theorem Br{F:Int->J}(h:∀(n:Int) (w:World),-9223372036854775808<=n->n<9223372036854775808->Calls P f #[.int .i64 n] w (MakesJ (F n) w)):NatC P f (giJ F):=by
 intro w ps vals hv hne;unfold giJ at hne;split at hne
 .rename_i n;obtain⟨v1,rfl,h1⟩:=dr hv;rw[jx h1];cases hs:smallI n with
  |false=>rw[hs]at hne;exact absurd rfl hne
  |true=>rw[show giJ F [.one (.i .i64 n)]=.one (jP (F n)) by show(bif smallI n then Res.one (jP (F n))else Res.no)=_;rw[hs];rfl];exact(h n w (jA hs).1 (jA hs).2).mono λe w' h=>l7 h
 .exact absurd rfl hne
theorem Bs{F:Int->Q}(h:∀(n:Int) (w:World),-9223372036854775808<=n->n<9223372036854775808->Calls P f #[.int .i64 n] w (MakesQ (F n) w)):NatC P f (giQ F):=by
 intro w ps vals hv hne;unfold giQ at hne;split at hne
 .rename_i n;obtain⟨v1,rfl,h1⟩:=dr hv;rw[jx h1];cases hs:smallI n with
  |false=>rw[hs]at hne;exact absurd rfl hne
  |true=>rw[show giQ F [.one (.i .i64 n)]=.one (qP (F n)) by show(bif smallI n then Res.one (qP (F n))else Res.no)=_;rw[hs];rfl];exact(h n w (jA hs).1 (jA hs).2).mono λe w' h=>aT h
 .exact absurd rfl hne
theorem Bt{F:J->Q}(h:∀(s:Bool) (A:Option Addr) (m c a:Nat) (z:Bool) (w:World),Num w (.slice A m c) a z->a<18446744073709551616->Calls P f #[.agg #[.bool s,.slice A m c]] w (MakesQ (F ⟨s,a,z⟩) w)):NatC P f (gJQ F):=by
 intro w ps vals hv hne;unfold gJQ at hne;split at hne
 .rename_i s a z;obtain⟨v1,rfl,h1⟩:=dr hv;obtain⟨A,m,c,rfl,hn,hl⟩:=cO h1;rw[show gJQ F [.agg [.b s,.n a z]]=.one (qP (F ⟨s,a,z⟩))from rfl];exact(h s A m c a z w hn hl).mono λe w' h=>aT h
 .exact absurd rfl hne
theorem rP{F:Q->Option Q}(h:∀(s s':Bool) (A A':Option Addr) (m c m' c' a a':Nat) (z z':Bool) (w:World),Num w (.slice A m c) a z->Num w (.slice A' m' c') a' z'->a<18446744073709551616->a'<18446744073709551616->∀r,F ⟨⟨s,a,z⟩,⟨s',a',z'⟩⟩=some r->Calls P f #[.agg #[.bool s,.slice A m c,.bool s',.slice A' m' c']] w (MakesQ r w)):NatC P f (gQ F):=by
 intro w ps vals hv hne;unfold gQ at hne;split at hne
 .rename_i s a z s' a' z';obtain⟨v1,rfl,h1⟩:=dr hv;obtain⟨A,m,c,A',m',c',rfl,hn,hn',hl,hl'⟩:=jw h1;obtain⟨r,hr⟩:=l9 hne;rw[show gQ F [.agg [.b s,.n a z,.b s',.n a' z']]=ofQ (F ⟨⟨s,a,z⟩,⟨s',a',z'⟩⟩)from rfl,hr];exact(h s s' A A' m c m' c' a a' z z' w hn hn' hl hl' r hr).mono λe w' h=>aT h
 .exact absurd rfl hne
theorem Bu{F:Q->Int}(h:∀(s s':Bool) (A A':Option Addr) (m c m' c' a a':Nat) (z z':Bool) (w:World),Num w (.slice A m c) a z->Num w (.slice A' m' c') a' z'->a<18446744073709551616->a'<18446744073709551616->Calls P f #[.agg #[.bool s,.slice A m c,.bool s',.slice A' m' c']] w (λe w'=>e=.returned (.int .i64 (F ⟨⟨s,a,z⟩,⟨s',a',z'⟩⟩))/\RowKit.Below w.heap.size w w')):NatC P f (gQi F):=by
 intro w ps vals hv hne;unfold gQi at hne;split at hne
 .rename_i s a z s' a' z';obtain⟨v1,rfl,h1⟩:=dr hv;obtain⟨A,m,c,A',m',c',rfl,hn,hn',hl,hl'⟩:=jw h1;rw[show gQi F [.agg [.b s,.n a z,.b s',.n a' z']]=.one (.one (.i .i64 (F ⟨⟨s,a,z⟩,⟨s',a',z'⟩⟩)))from rfl];exact(h s s' A A' m c m' c' a a' z z' w hn hn' hl hl').mono λe w' h=>⟨⟨_,h.1,.one (.one (.i _ _)) (.cons (λ_ h=>(by cases h)) .nil)⟩,h.2⟩
 .exact absurd rfl hne
theorem l_{F:Q->Q->Option Q}(h:∀(s s':Bool) (A A':Option Addr) (m c m' c' a a':Nat) (z z':Bool) (t t':Bool) (B B':Option Addr) (k d k' d' b b':Nat) (u u':Bool) (w:World),Num w (.slice A m c) a z->Num w (.slice A' m' c') a' z'->a<18446744073709551616->a'<18446744073709551616->Num w (.slice B k d) b u->Num w (.slice B' k' d') b' u'->b<18446744073709551616->b'<18446744073709551616->∀r,F ⟨⟨s,a,z⟩,⟨s',a',z'⟩⟩ ⟨⟨t,b,u⟩,⟨t',b',u'⟩⟩=some r->Calls P f #[.agg #[.bool s,.slice A m c,.bool s',.slice A' m' c'],.agg #[.bool t,.slice B k d,.bool t',.slice B' k' d']] w (MakesQ r w)):NatC P f (gQQ F):=by
 intro w ps vals hv hne;unfold gQQ at hne;split at hne
 .rename_i s a z s' a' z' t b u t' b' u';obtain⟨v1,v2,rfl,h1,h2⟩:=fX hv;obtain⟨A,m,c,A',m',c',rfl,hn,hn',hl,hl'⟩:=jw h1;obtain⟨B,k,d,B',k',d',rfl,gn,gn',gl,gl'⟩:=jw h2;obtain⟨r,hr⟩:=l9 hne;rw[show gQQ F [.agg [.b s,.n a z,.b s',.n a' z'],.agg [.b t,.n b u,.b t',.n b' u']]=ofQ (F ⟨⟨s,a,z⟩,⟨s',a',z'⟩⟩ ⟨⟨t,b,u⟩,⟨t',b',u'⟩⟩)from rfl,hr];exact(h s s' A A' m c m' c' a a' z z' t t' B B' k d k' d' b b' u u' w hn hn' hl hl' gn gn' gl gl' r hr).mono λe w' h=>aT h
 .exact absurd rfl hne
theorem Bv:NatC Tryz.prog 69 (giJ jOf):=Br λn w h1 h2=>a_ n w h1 h2
theorem Bw:NatC Tryz.prog 83 (gJ λa=>some a.normal):=rO λs A m c a z w h _ _ hr=>by cases hr;exact cw s A m c a z w h
theorem Bx:NatC Tryz.prog 125 (gJ λa=>some a.neg):=rO λs A m c a z w h _ _ hr=>by cases hr;exact pP s A m c a z w h
theorem By:NatC Tryz.prog 119 (gJi J.sign):=Bq λs A m c a z w h _=>dk s A m c a z w h.digs
theorem Bz:NatC Tryz.prog 120 (gJJ jAdd):=jy λs A m c a z t B m' c' b u w h hl h' hl' _ hr=>iM s t A B m c m' c' a b z u w h h' hl hl' hr
theorem BA:NatC Tryz.prog 229 (gJJ jSub):=jy λs A m c a z t B m' c' b u w h hl h' hl' _ hr=>yw s t A B m c m' c' a b z u w h h' hl hl' hr
theorem BB:NatC Tryz.prog 72 (gJJ jMul):=jy λs A m c a z t B m' c' b u w h _ h' _ _ hr=>ew s t A B m c m' c' a b z u w h h' hr
theorem BC:NatC Tryz.prog 154 (gJJ λa b=>some (jGcd a b)):=jy λs A m c a z t B m' c' b u w h hl h' hl' _ hr=>by cases hr;exact ll s t A B m c m' c' a b z u w h h' hl hl'
theorem BD:NatC Tryz.prog 52 (giQ qOf):=Bs λn w h1 h2=>yK n w h1 h2
theorem BE:NatC Tryz.prog 34 (gJQ qWhole):=Bt λs A m c a z w h _=>yL s A m c a z w h
theorem BF:NatC Tryz.prog 85 (gQ qNormal):=rP λs s' A A' m c m' c' a a' z z' w h h' hl hl' _ hr=>lq s s' A A' m c m' c' a a' z z' w h h' hl hl' hr
theorem BG:NatC Tryz.prog 60 (gQ qNeg):=rP λs s' A A' m c m' c' a a' z z' w h h' hl hl' _ hr=>pS s s' A A' m c m' c' a a' z z' w h h' hl hl' hr
theorem BH:NatC Tryz.prog 122 (gQi qSign):=Bu λs s' A A' m c m' c' a a' z z' w h h' _ _=>yN s s' A A' m c m' c' a a' z z' w h h'
theorem BJ:NatC Tryz.prog 88 (gQQ qMul):=l_ λs s' A A' m c m' c' a a' z z' t t' B B' k d k' d' b b' u u' w h h' _ _ g g' _ _ _ hr=>yO s s' A A' m c m' c' a a' z z' t t' B B' k d k' d' b b' u u' w h h' g g' hr
theorem BK:NatC Tryz.prog 123 (gQQ qAdd):=l_ λs s' A A' m c m' c' a a' z z' t t' B B' k d k' d' b b' u u' w h h' hl hl' g g' gl gl' _ hr=>pT s s' A A' m c m' c' a a' z z' t t' B B' k d k' d' b b' u u' w h h' g g' hl hl' gl gl' hr
end Go.Ex
namespace Go.Ex
open Go Go.RowKit Go.Proofs Go.BI
def GcdRel(g:Nat)(w:World)(x y:Value)(wr:World):Prop:=∃p q n:Nat,x=.int .i64 p/\y=.int .i64 q/\Nat.gcd p q=g/\p<9223372036854775808/\q<9223372036854775808/\wr=w.drewN n
theorem BL(a b:Nat)(w:World)(ha:a<9223372036854775808)(hb:b<9223372036854775808):Calls Tryz.prog 204 #[.int .i64 a,.int .i64 b] w λe w'=>e=.returned (.int .i64 (Nat.gcd a b:Nat))/\∃n,w'=w.drewN n:=by
 go_enter Tryz.func204,Tryz.ntmps204;go_wp2
 go_loopw [0,1] (λx y wr=>GcdRel (Nat.gcd a b) w x y wr) (λ_ y _=>(intOf y).toNat)
 case atStart=>exact⟨a,b,0,rfl,rfl,rfl,ha,hb,rfl⟩
 case round=>
  obtain⟨p,q,n,rfl,rfl,hg,hp,hq,rfl⟩:=hrel;have G:=Lib.hid hg;clear hg;by_cases h0:q=0
  .subst h0;go_wp2;go_ret;exact⟨by rw[<-G.out,Nat.gcd_zero_right];rfl,n,rfl⟩
  .have hpos:0<q:=Nat.pos_of_ne_zero h0;have hne:((q:Int)==0)=false:=beq_false_of_ne (by omega);have hne':((q:Int) !=0)=true:=by rw[bne,hne];rfl
   go_wp2
   go_quiet (fail)
   go_roundw
   case rel=>refine⟨_,_,_,_,_,_,_,_,?_,rfl⟩;exact⟨q,p%q,n+nq,rfl,rfl,by rw[iC];exact G.out,hq,Nat.lt_of_le_of_lt (Nat.mod_le p q) hp,World.drewN_drewN ..⟩
   case measure=>simp[intOf];have:=Nat.mod_lt p hpos;omega
theorem BM:NatC Tryz.prog 204 (gii gcdI):=by
 intro w ps vals hv hne;unfold gii at hne;split at hne
 .rename_i a b;obtain⟨v1,v2,rfl,h1,h2⟩:=fX hv;rw[jx h1,jx h2];rw[show gii gcdI [.one (.i .i64 a),.one (.i .i64 b)]=(match gcdI a b with|some r=>.one (.one (.i .i64 r))|none=>.no)from rfl];cases hg:gcdI a b with
  |none=>rw[hg]at hne;exact absurd rfl hne
  |some r=>
   unfold gcdI at hg;split at hg
   .rename_i m n;cases hl:(Nat.ble m 9223372036854775807&&Nat.ble n 9223372036854775807)with
    |false=>rw[hl]at hg;cases hg
    |true=>
     rw[hl]at hg;rw[Bool.and_eq_true]at hl;cases hg;refine(BL m n w (Nat.lt_succ_of_le (Nat.le_of_ble_eq_true hl.1)) (Nat.lt_succ_of_le (Nat.le_of_ble_eq_true hl.2))).mono λe w' h=>?_
     obtain⟨rfl,k,rfl⟩:=h;exact⟨⟨_,rfl,ResN.one (.one (.i _ _)) (.cons (λ_ h=>(by cases h)) .nil)⟩,Go.BI.below_drewN w k⟩
   .cases hg
 .exact absurd rfl hne
end Go.Ex
namespace Go.Ex
open Go Go.RowKit Go.Proofs Go.BI
theorem BN:NatC Tryz.prog 124 (gJJQ qOver):=by
 intro w ps vals hv hne;unfold gJJQ at hne;split at hne
 .rename_i s a z t b u;obtain⟨v1,v2,rfl,h1,h2⟩:=fX hv;obtain⟨A,m,c,rfl,hn,hl⟩:=cO h1;obtain⟨B,m',c',rfl,hn',hl'⟩:=cO h2;obtain⟨r,hr⟩:=l9 hne;rw[show gJJQ qOver [.agg [.b s,.n a z],.agg [.b t,.n b u]]=ofQ (qOver ⟨s,a,z⟩ ⟨t,b,u⟩)from rfl,hr];exact(iP s t A B m c m' c' a b z u w hn hn' hl hl' hr).mono λe w' h=>aT h
 .exact absurd rfl hne
theorem BO:NatC Tryz.prog 153 (gJJe jExact):=by
 intro w ps vals hv hne;unfold gJJe at hne;split at hne
 .rename_i s a z t b u;obtain⟨v1,v2,rfl,h1,h2⟩:=fX hv;obtain⟨A,m,c,rfl,hn,hl⟩:=cO h1;obtain⟨B,m',c',rfl,hn',hl'⟩:=cO h2;rw[show gJJe jExact [.agg [.b s,.n a z],.agg [.b t,.n b u]]=(match jExact ⟨s,a,z⟩ ⟨t,b,u⟩with|some r=>.tup [jP r,.one (.i .i64 0)]|none=>.no)from rfl];cases hj:jExact ⟨s,a,z⟩ ⟨t,b,u⟩with
  |none=>rw[hj]at hne;exact absurd rfl hne
  |some r=>
   unfold jExact at hj;simp only at hj;cases hz:isZ b with
   |true=>rw[hz]at hj;cases hj
   |false=>
    have hb:0<b:=Nat.pos_of_ne_zero λe=>by subst e;cases hz
    rw[hz]at hj;simp only[cond]at hj;cases hm:isZ (Nat.mod a b)with
    |false=>rw[hm]at hj;cases hj
    |true=>
     have hr:a%b=0:=Nat.eq_of_beq_eq_true hm;rw[hm]at hj;simp only[Option.some.injEq]at hj;subst hj;refine(lj s t A B m c m' c' a b z u w hn hn' hl hb hr).mono λe w' h=>?_
     obtain⟨⟨A1,m1,c1,v,rfl,rfl,hN⟩,hb1⟩:=h;have e:(!(beqB s t))=(s !=t):=(pM s t).symm;refine⟨⟨_,rfl,?_⟩,hb1⟩;unfold jSigned;rw[e];refine ResN.tup (PartsN.cons (PartN.agg (vs:=[.bool (jSign (s !=t) (a/b)),.slice A1 m1 c1]) (.cons (.b _) (.cons (.n hN) .nil))) (PartsN.cons (PartN.one (.i _ _)) .nil)) ?_;refine .cons ?_ (.cons ?_ (.cons ?_ .nil))
     .intro v _ b hb;cases hb
     .intro v hv b hb hb';have:v=.int .i64 0:=by simpa using hv
      subst this;cases hb'
     .intro v hv;cases hv
 .exact absurd rfl hne
end Go.Ex
namespace Go.Ex
open Go Go.RowKit Go.Proofs Go.BI
theorem BP:NatC Tryz.prog 179 gnn:=by
 intro w ps vals hv hne;unfold gnn at hne;split at hne
 .rename_i a z;obtain⟨v1,rfl,h1⟩:=dr hv;cases h1 with
  |one h1=>
   obtain⟨A,m,c,rfl,hn,hl⟩:=jv h1;refine(fw A m c a z w hn).mono λe w' h=>?_
   obtain⟨⟨A',m',c',rfl,hn'⟩,hb⟩:=h;exact⟨⟨_,rfl,ResN.one (.one (.n hn')) (.cons (λ_ h=>(by cases h)) .nil)⟩,hb⟩
 .exact absurd rfl hne
end Go.Ex
namespace Go.Ex.KV
open Go Go.Ex Go.Ex.KD Go.Proofs
theorem follows:Tryz.prog.follows .mixedOrders=true:=by kernel_rfl
theorem ma:Tryz.prog.globals.size=2:=by kernel_rfl
theorem hq:q2=key Tryz.prog.globals.size:=by rw[ma];rfl
end Go.Ex.KV
namespace Go.Ex.KD
open Go
def q13:Pth:=.s .d13 .e
def q14:Pth:=.s .d14 .e
def q15:Pth:=.s .d15 .e
def q16:Pth:=.s .d16 .e
def q17:Pth:=.s .d17 .e
def q31:Pth:=.s .d31 .e
def q34:Pth:=.s .d2 (.s .d1 .e)
def q35:Pth:=.s .d3 (.s .d1 .e)
def q36:Pth:=.s .d4 (.s .d1 .e)
def q37:Pth:=.s .d5 (.s .d1 .e)
def q38:Pth:=.s .d6 (.s .d1 .e)
def q39:Pth:=.s .d7 (.s .d1 .e)
def q40:Pth:=.s .d8 (.s .d1 .e)
def q41:Pth:=.s .d9 (.s .d1 .e)
def q42:Pth:=.s .d10 (.s .d1 .e)
def q43:Pth:=.s .d11 (.s .d1 .e)
def q44:Pth:=.s .d12 (.s .d1 .e)
def q45:Pth:=.s .d13 (.s .d1 .e)
def q46:Pth:=.s .d14 (.s .d1 .e)
def q47:Pth:=.s .d15 (.s .d1 .e)
def q48:Pth:=.s .d16 (.s .d1 .e)
def q49:Pth:=.s .d17 (.s .d1 .e)
def q50:Pth:=.s .d18 (.s .d1 .e)
def q51:Pth:=.s .d19 (.s .d1 .e)
def q53:Pth:=.s .d21 (.s .d1 .e)
end Go.Ex.KD
