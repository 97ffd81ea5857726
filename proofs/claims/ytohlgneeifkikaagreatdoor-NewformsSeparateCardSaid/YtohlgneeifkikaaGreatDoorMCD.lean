/- A part of the executor of abstract values, its soundness over the model, and what functions of the program reckon. Conditions: those stated at each theorem. -/
import Derived.Below
import Derived.Test.YtohlgneeifkikaaGreatDoorProg
import Derived.WalkKit
import Derived.WalkSpells
import Derived.WalkLawsBesides
import Derived.BigQuiet
import Derived.Deep.QuietTactic
import Derived.Lib.Hide
import Derived.IntWalk
import Derived.Deep.RegionWith
import Derived.Lib.LaidTab
import Derived.Test.YtohlgneeifkikaaGreatDoorMAS
import Derived.Test.YtohlgneeifkikaaGreatDoorMAR
import Derived.Test.YtohlgneeifkikaaGreatDoorMAY
import Derived.Test.YtohlgneeifkikaaGreatDoorMAZ
import Derived.Test.YtohlgneeifkikaaGreatDoorMBA
import Derived.Test.YtohlgneeifkikaaGreatDoorMBB
import Derived.Test.YtohlgneeifkikaaGreatDoorMBC
import Derived.Test.YtohlgneeifkikaaGreatDoorMBD
import Derived.Test.YtohlgneeifkikaaGreatDoorMBE
import Derived.Test.YtohlgneeifkikaaGreatDoorMBF
import Derived.Test.YtohlgneeifkikaaGreatDoorMBG
import Derived.Test.YtohlgneeifkikaaGreatDoorMBH
import Derived.Test.YtohlgneeifkikaaGreatDoorMBI
import Derived.Test.YtohlgneeifkikaaGreatDoorMBJ
import Derived.Test.YtohlgneeifkikaaGreatDoorMBX
import Derived.Test.YtohlgneeifkikaaGreatDoorMBY
import Derived.Test.YtohlgneeifkikaaGreatDoorMBZ
import Derived.Test.YtohlgneeifkikaaGreatDoorMCA
import Derived.Test.YtohlgneeifkikaaGreatDoorMCB
import Derived.Test.YtohlgneeifkikaaGreatDoorMAT
import Derived.Test.YtohlgneeifkikaaGreatDoorMAU
import Derived.Test.YtohlgneeifkikaaGreatDoorMAV
import Derived.Test.YtohlgneeifkikaaGreatDoorMAW
set_option maxRecDepth 1000000
set_option maxHeartbeats 0
set_option linter.unusedVariables false
noncomputable section
namespace Go.Ex
open Go Go.Proofs Go.Ex.KD
theorem Cr:(FG.map (·.1)).all KL.Gk=true:=(cover 0 16 KL.BS (cover 16 6 KL.BU (cover 22 4 KL.BV (cover 26 3 KL.BW (cover 29 2 KL.BX (cover 31 2 KL.BY (cover 33 1 KL.BZ (cover 34 1 KL.B0 (cover 35 2 KL.B5 (by kernel_rfl))))))))))
theorem Cs:Fc.all KE.Fi=true:=(cover 0 74 KE.B6 (cover 74 13 KE.B7 (cover 87 8 KE.B8 (cover 95 6 KE.B9 (cover 101 4 KE.B_ (cover 105 3 KE.Ca (cover 108 3 KE.Cb (cover 111 3 KE.Cc (cover 114 2 KE.Cd (cover 116 2 KE.Ce (cover 118 2 KE.Cf (cover 120 2 KE.Cg (cover 122 2 KE.Ch (cover 124 1 KE.Ci (cover 125 1 KE.Cj (cover 126 1 KE.Ck (cover 127 1 KE.Cm (cover 128 1 KE.Cn (cover 129 1 KE.Co (cover 130 1 KE.Cp (cover 131 1 KE.Cq (by kernel_rfl))))))))))))))))))))))
variable{ω:Nat->Value}
theorem Ct(hω:∀i,(ω i).oneCell'=true)(hm:Tryz.prog.follows .mixedOrders=true)(hq:q2=key Tryz.prog.globals.size)(hT:TabOk Tryz.prog ω (KY6.FN κ0)):OrcOk Tryz.prog ω 203 (natK (ar1 Ky)):=by
 refine zN λn hn=>⟨KL.cL n,?_⟩
 exact@qh Tryz.prog ω (KY6.FN κ0) hω hm hT 203 (Kx n (KL.cL n)) q2 hq rfl rfl (KY6.I5 (κ:=κ0)).k (KY6.I5 (κ:=κ0)).a rfl (List.all_eq_true.1 Cr n hn)
theorem Cu(hω:∀i,(ω i).oneCell'=true)(hm:Tryz.prog.follows .mixedOrders=true)(hq:q2=key Tryz.prog.globals.size)(hT:TabOk Tryz.prog ω (KY6.FN κE)):OrcOk Tryz.prog ω 116 (natK (ar1 (Kz KY6.ro0))):=by
 refine zQ λn k d hn=>?_
 have h:=List.all_eq_true.1 Cs (n,k,d) hn;unfold KE.Fi at h;generalize R.rec (motive:=λ_=>Pth×Pth×Pth) (.e,.e,.e) (λv H=>KE.cE H v) (KE.rE (n,k,d))=c at h;obtain⟨c1,c2,c3⟩:=c;simp only[KE.R5,Bool.and_eq_true,Bool.not_eq_true']at h;obtain⟨h1,h2,d1,d2,d3⟩:=h;refine⟨h2,c1,c2,c3,⟨d1,d2,d3⟩,?_⟩;refine@qh Tryz.prog ω (KY6.FN κE) hω hm hT 116 (Ii KY6.ro0 n k d c1 c2 c3) q2 hq rfl rfl (KY6.F5 (κ:=κE)).k (KY6.F5 (κ:=κE)).a ?_ h1;have hr:roFlat q2 KY6.ro0=true:=by kernel_rfl
 have hd:keysDiff (Ii KY6.ro0 n k d c1 c2 c3).objs=true:=by show((!pthEq c1 c2&&(!pthEq c1 c3&&true))&&((!pthEq c2 c3&&true)&&(true&&true)))=true;rw[d1,d2,d3];rfl
 show(true&&(roFlat q2 KY6.ro0&&keysDiff (Ii KY6.ro0 n k d c1 c2 c3).objs))=true;rw[hr,hd];rfl
theorem r8(hω:∀i,(ω i).oneCell'=true):KOk ω κE:={(r7:KOk ω κ0)with o203:=Ct hω KV.follows KV.hq (bD hω r7)}
theorem cS(hω:∀i,(ω i).oneCell'=true):KOk ω κB:={r8 hω with o116:=Cu hω KV.follows KV.hq (bD hω (r8 hω))}
end Go.Ex
namespace Go.Ex.KP
open Go Go.Ex Go.Ex.KD Go.Proofs
theorem aB{ω:Nat->Value}(hω:∀i,(ω i).oneCell'=true):TabOk Tryz.prog ω (KY6.FN κB):=bD hω (cS hω)
theorem D5:OL fA (lA.map gA):=dP (z:=_) (DO (EN (EO (Wt (Wu (by show(lA.drop 117).all tA=true;kernel_rfl))))))
theorem D6{ω:Nat->Value}(hω:∀i,(ω i).oneCell'=true):OrcOk Tryz.prog ω 25 (natK nA):=dt (f:=25) (T:=KY6.FN κB) (k:=fA) hω KV.follows (aB hω) (KY6.L8 (κ:=κB)).a KV.hq D5
theorem D7:OL fC (lC.map gC):=dP (z:=_) (DU (Wv (by show(lC.drop 136).all tC=true;kernel_rfl)))
theorem D8{ω:Nat->Value}(hω:∀i,(ω i).oneCell'=true):OrcOk Tryz.prog ω 128 (natK nC):=dt (f:=128) (T:=KY6.FN κB) (k:=fC) hω KV.follows (aB hω) (KY6.ON (κ:=κB)).a KV.hq D7
theorem D9:OL fD (lD.map gD):=dP (z:=_) (DW (Ww (Wx (Wy (Wz (WA (by show(lD.drop 216).all tD=true;kernel_rfl)))))))
theorem D_{ω:Nat->Value}(hω:∀i,(ω i).oneCell'=true):OrcOk Tryz.prog ω 136 (natK nD):=dt (f:=136) (T:=KY6.FN κB) (k:=fD) hω KV.follows (aB hω) (KY6.O0 (κ:=κB)).a KV.hq D9
theorem Ea:OL fE (lE.map gE):=dP (z:=_) (D1 (WB (by show(lE.drop 83).all tE=true;kernel_rfl)))
theorem Eb{ω:Nat->Value}(hω:∀i,(ω i).oneCell'=true):OrcOk Tryz.prog ω 76 (natK nE):=dt (f:=76) (T:=KY6.FN κB) (k:=fE) hω KV.follows (aB hω) (KY6.Mg (κ:=κB)).a KV.hq Ea
theorem Ec:OL fL (lL.map gL):=dP (z:=_) (D3 (by show(lL.drop 132).all tL=true;kernel_rfl))
theorem Ed{ω:Nat->Value}(hω:∀i,(ω i).oneCell'=true):OrcOk Tryz.prog ω 7 (natK nL):=dt (f:=7) (T:=KY6.FN κB) (k:=fL) hω KV.follows (aB hω) (KY6.K7 (κ:=κB)).a KV.hq Ec
theorem EZ:OL fW [(0,⟨⟨[],ro0,[],.bool true,none,none⟩,[],[],[]⟩)]:=λp hp=>by rw[List.mem_singleton.1 hp];exact⟨q2,tw0⟩
theorem Ee{ω:Nat->Value}(hω:∀i,(ω i).oneCell'=true):OrcOk Tryz.prog ω 6 (natK nW):=dt (f:=6) (T:=KY6.FN κB) (k:=fW) (L:=[(0,⟨⟨[],ro0,[],.bool true,none,none⟩,[],[],[]⟩)]) hω KV.follows (aB hω) (KY6.K6 (κ:=κB)).a KV.hq EZ
theorem mh{ω:Nat->Value}(hω:∀i,(ω i).oneCell'=true):KOk ω κ1:={cS hω with o25:=D6 hω,o76:=Eb hω,o128:=D8 hω}
end Go.Ex.KP
namespace Go.Ex.KV
open Go Go.Proofs Go.Ex Go.Ex.KD
theorem mc:∀i,((λ_=>Value.bool true:Nat->Value) i).oneCell'=true:=λ_=>rfl
theorem CY{ω:Nat->Value}(w:World):∃ρ,HR Tryz.prog ρ ω hE w/\GlobOk Tryz.prog ρ:=by
 let ρ:Rho:=⟨λid=>if id=key id.toNat/\id.toNat<2 then some ⟨id.toNat,0,0⟩else none,λ_=>none⟩
 have hd:∀id,hE.m.get .dead id=AObj.dead:=λid=>get_nil _ _
 refine⟨ρ,⟨λid=>?_,λa b ia ib ho=>?_,λid i h=>?_,λb c h=>by cases h⟩,λg hg=>?_⟩
 .rw[hd];trivial
 .rw[hd]at ho;cases ho
 .show id.toNat<q2.toNat;have h:(if id=key id.toNat/\id.toNat<2 then some (⟨id.toNat,0,0⟩:BI)else none)=some i:=h;by_cases hx:id=key id.toNat/\id.toNat<2
  .exact hx.2
  .rw[if_neg hx]at h;cases h
 .rw[ma]at hg;refine⟨⟨g,0,0⟩,?_,rfl,rfl⟩;show(if key g=key (key g).toNat/\(key g).toNat<2 then some (⟨(key g).toNat,0,0⟩:BI)else none)=_;rw[bN,if_pos ⟨rfl,hg⟩]
theorem scalar{f:Nat}{k:List AVal->AH->R}(hA:Adq (KY6.FN κB) (key f) k){d:Int}{v:AVal}{H':AH}(h:k [.int .i64 d] hE=.ok v H')(w:World):Calls Tryz.prog f #[.int .i64 d] w λe w'=>(∃ρ' v',e=.returned v'/\VR ρ' (λ_=>Value.bool true) v v')/\Go.RowKit.Below w.heap.size w w':=by
 obtain⟨ρ,hr,hg⟩:=CY (ω:=λ_=>Value.bool true) w;obtain⟨n,hn⟩:=hA _ _ _ _ h;have hcf:=kg mc follows (bD mc (cS mc)) (hn n (Nat.le_refl _)) hr hg (.cons (.int .i64 d) .nil);refine(hcf.calls λk=>room_wide k).mono λe w' he=>?_
 cases e with
 |panicked x=>exact he.elim
 |outgrown=>exact he.elim
 |returned v=>obtain⟨ρ',hv,hs⟩:=he;exact⟨⟨ρ',v,rfl,hv⟩,⟨hs.os,hs.tape,hs.output,hs.size,hs.kept λid=>by rw[show hE.m.get .dead id=AObj.dead from get_nil _ _];rfl⟩⟩
theorem sk{a b:Bool}(h:boolEq a b=true):a=b:=by cases a<;>cases b<;>first|rfl|cases h
theorem ss{f:Int->Bool}:∀{l:List Int},allL f l=true->∀d∈l,f d=true
 |[],_,_,h=>by cases h
 |a::l,h,d,hd=>by
  unfold allL at h;rw[Bool.and_eq_true]at h;cases hd with
  |head=>exact h.1
  |tail _ hd=>exact ss h.2 d hd
theorem ai{f:Int->Bool}{n:Nat}{lo:Int}(h:allL f (rng lo n)=true){d:Int}(h1:lo<=d)(h2:d<lo+n):f d=true:=by refine ss h d ?_;rw[rng,List.mem_map];exact⟨(d-lo).toNat,List.mem_range.2 (by omega),by omega⟩
theorem CZ{b:Bool}{r:R}(h:okBool b r=true):∃H,r=.ok (.bool b) H:=by
 unfold okBool at h;split at h
 .rw[sk h];exact⟨_,rfl⟩
 .cases h
theorem C0{b:Bool}{r:R}(h:okFund b r=true):∃a f e H,r=.ok (.tup [.int .i64 a,.int .i64 f,.int .i64 e]) H/\(decide (e=0/\f=1)=b):=by
 unfold okFund at h;split at h
 .rename_i a f e H;refine⟨a,f,e,H,rfl,?_⟩;rw[<-sk h,Bool.eq_iff_iff];simp[bX]
 .cases h
theorem C1{n:Int}{r:R}(h:okPair n r=true):∃H,r=.ok (.tup [.int .i64 n,.int .i64 0]) H:=by
 unfold okPair at h;split at h
 .simp only[Bool.and_eq_true,bX]at h;obtain⟨rfl,rfl⟩:=h;exact⟨_,rfl⟩
 .cases h
theorem su{n:Int}{r:R}(h:okInt n r=true):∃H,r=.ok (.int .i64 n) H:=by
 unfold okInt at h;split at h
 .simp only[bX]at h;subst h;exact⟨_,rfl⟩
 .cases h
theorem aZ{ρ:Rho}{ω:Nat->Value}{k:IntKind}{n:Int}{v:Value}(h:VR ρ ω (.int k n) v):v=.int k n:=by cases h;rfl
theorem C2{ρ:Rho}{ω:Nat->Value}{b:Bool}{v:Value}(h:VR ρ ω (.bool b) v):v=.bool b:=by cases h;rfl
theorem C3{ρ:Rho}{ω:Nat->Value}{k l:IntKind}{a b:Int}{v:Value}(h:VR ρ ω (.tup [.int k a,.int l b]) v):v=.tuple #[.int k a,.int l b]:=by
 cases h with
 |tup _ vs h=>cases h with|cons h1 h=>cases h with|cons h2 h=>cases h;rw[aZ h1,aZ h2]
theorem C4{ρ:Rho}{ω:Nat->Value}{k l m:IntKind}{a b c:Int}{v:Value}(h:VR ρ ω (.tup [.int k a,.int l b,.int m c]) v):v=.tuple #[.int k a,.int l b,.int m c]:=by
 cases h with
 |tup _ vs h=>cases h with|cons h1 h=>cases h with|cons h2 h=>cases h with|cons h3 h=>cases h;rw[aZ h1,aZ h2,aZ h3]
theorem t90{d:Int}(h1:-120<=d)(h2:d<=120):okFund (fundB d) ((KY6.K90 (κ:=κB)).k [.int .i64 d] hE)=true:=by exact ai (f:=λd=>okFund (fundB d) ((KY6.K90 (κ:=κB)).k [.int .i64 d] hE)) u0 (by omega) (by omega)
theorem t113{d:Int}(h1:-120<=d)(h2:d<=120):okBool (fundB d&&!(intEq d 1)) ((KY6.K113 (κ:=κB)).k [.int .i64 d] hE)=true:=by exact ai (f:=λd=>okBool (fundB d&&!(intEq d 1)) ((KY6.K113 (κ:=κB)).k [.int .i64 d] hE)) u1 (by omega) (by omega)
theorem t37{d:Int}(h1:1<=d)(h2:d<=120):okPair (psiT d) ((KY6.K37 (κ:=κB)).k [.int .i64 d] hE)=true:=by exact ai (f:=λd=>okPair (psiT d) ((KY6.K37 (κ:=κB)).k [.int .i64 d] hE)) u2 (by omega) (by omega)
theorem t114{d:Int}(h1:1<=d)(h2:d<=120):okInt (psiT d) ((KY6.K114 (κ:=κB)).k [.int .i64 d] hE)=true:=by
 rcases Int.lt_or_le 70 d with h|h
 rotate_left
 .exact ai (f:=λd=>okInt (psiT d) ((KY6.K114 (κ:=κB)).k [.int .i64 d] hE)) u3 (by omega) (by omega)
 rcases Int.lt_or_le 88 d with h|h
 rotate_left
 .exact ai (f:=λd=>okInt (psiT d) ((KY6.K114 (κ:=κB)).k [.int .i64 d] hE)) u4 (by omega) (by omega)
 rcases Int.lt_or_le 101 d with h|h
 rotate_left
 .exact ai (f:=λd=>okInt (psiT d) ((KY6.K114 (κ:=κB)).k [.int .i64 d] hE)) u5 (by omega) (by omega)
 rcases Int.lt_or_le 111 d with h|h
 rotate_left
 .exact ai (f:=λd=>okInt (psiT d) ((KY6.K114 (κ:=κB)).k [.int .i64 d] hE)) u6 (by omega) (by omega)
 rcases Int.lt_or_le 119 d with h|h
 rotate_left
 .exact ai (f:=λd=>okInt (psiT d) ((KY6.K114 (κ:=κB)).k [.int .i64 d] hE)) u7 (by omega) (by omega)
 exact ai (f:=λd=>okInt (psiT d) ((KY6.K114 (κ:=κB)).k [.int .i64 d] hE)) u8 (by omega) (by omega)
theorem t56{d:Int}(h1:1<=d)(h2:d<=120):okInt (psiT d) ((KY6.K56 (κ:=κB)).k [.int .i64 d] hE)=true:=by
 rcases Int.lt_or_le 41 d with h|h
 rotate_left
 .exact ai (f:=λd=>okInt (psiT d) ((KY6.K56 (κ:=κB)).k [.int .i64 d] hE)) u9 (by omega) (by omega)
 rcases Int.lt_or_le 51 d with h|h
 rotate_left
 .exact ai (f:=λd=>okInt (psiT d) ((KY6.K56 (κ:=κB)).k [.int .i64 d] hE)) u10 (by omega) (by omega)
 rcases Int.lt_or_le 58 d with h|h
 rotate_left
 .exact ai (f:=λd=>okInt (psiT d) ((KY6.K56 (κ:=κB)).k [.int .i64 d] hE)) u11 (by omega) (by omega)
 rcases Int.lt_or_le 64 d with h|h
 rotate_left
 .exact ai (f:=λd=>okInt (psiT d) ((KY6.K56 (κ:=κB)).k [.int .i64 d] hE)) u12 (by omega) (by omega)
 rcases Int.lt_or_le 69 d with h|h
 rotate_left
 .exact ai (f:=λd=>okInt (psiT d) ((KY6.K56 (κ:=κB)).k [.int .i64 d] hE)) u13 (by omega) (by omega)
 rcases Int.lt_or_le 73 d with h|h
 rotate_left
 .exact ai (f:=λd=>okInt (psiT d) ((KY6.K56 (κ:=κB)).k [.int .i64 d] hE)) u14 (by omega) (by omega)
 rcases Int.lt_or_le 77 d with h|h
 rotate_left
 .exact ai (f:=λd=>okInt (psiT d) ((KY6.K56 (κ:=κB)).k [.int .i64 d] hE)) u15 (by omega) (by omega)
 rcases Int.lt_or_le 80 d with h|h
 rotate_left
 .exact ai (f:=λd=>okInt (psiT d) ((KY6.K56 (κ:=κB)).k [.int .i64 d] hE)) u16 (by omega) (by omega)
 rcases Int.lt_or_le 83 d with h|h
 rotate_left
 .exact ai (f:=λd=>okInt (psiT d) ((KY6.K56 (κ:=κB)).k [.int .i64 d] hE)) u17 (by omega) (by omega)
 rcases Int.lt_or_le 86 d with h|h
 rotate_left
 .exact ai (f:=λd=>okInt (psiT d) ((KY6.K56 (κ:=κB)).k [.int .i64 d] hE)) u18 (by omega) (by omega)
 rcases Int.lt_or_le 89 d with h|h
 rotate_left
 .exact ai (f:=λd=>okInt (psiT d) ((KY6.K56 (κ:=κB)).k [.int .i64 d] hE)) u19 (by omega) (by omega)
 rcases Int.lt_or_le 91 d with h|h
 rotate_left
 .exact ai (f:=λd=>okInt (psiT d) ((KY6.K56 (κ:=κB)).k [.int .i64 d] hE)) u20 (by omega) (by omega)
 rcases Int.lt_or_le 93 d with h|h
 rotate_left
 .exact ai (f:=λd=>okInt (psiT d) ((KY6.K56 (κ:=κB)).k [.int .i64 d] hE)) u21 (by omega) (by omega)
 rcases Int.lt_or_le 95 d with h|h
 rotate_left
 .exact ai (f:=λd=>okInt (psiT d) ((KY6.K56 (κ:=κB)).k [.int .i64 d] hE)) u22 (by omega) (by omega)
 rcases Int.lt_or_le 97 d with h|h
 rotate_left
 .exact ai (f:=λd=>okInt (psiT d) ((KY6.K56 (κ:=κB)).k [.int .i64 d] hE)) u23 (by omega) (by omega)
 rcases Int.lt_or_le 99 d with h|h
 rotate_left
 .exact ai (f:=λd=>okInt (psiT d) ((KY6.K56 (κ:=κB)).k [.int .i64 d] hE)) u24 (by omega) (by omega)
 rcases Int.lt_or_le 101 d with h|h
 rotate_left
 .exact ai (f:=λd=>okInt (psiT d) ((KY6.K56 (κ:=κB)).k [.int .i64 d] hE)) u25 (by omega) (by omega)
 rcases Int.lt_or_le 103 d with h|h
 rotate_left
 .exact ai (f:=λd=>okInt (psiT d) ((KY6.K56 (κ:=κB)).k [.int .i64 d] hE)) u26 (by omega) (by omega)
 rcases Int.lt_or_le 105 d with h|h
 rotate_left
 .exact ai (f:=λd=>okInt (psiT d) ((KY6.K56 (κ:=κB)).k [.int .i64 d] hE)) u27 (by omega) (by omega)
 rcases Int.lt_or_le 107 d with h|h
 rotate_left
 .exact ai (f:=λd=>okInt (psiT d) ((KY6.K56 (κ:=κB)).k [.int .i64 d] hE)) u28 (by omega) (by omega)
 rcases Int.lt_or_le 109 d with h|h
 rotate_left
 .exact ai (f:=λd=>okInt (psiT d) ((KY6.K56 (κ:=κB)).k [.int .i64 d] hE)) u29 (by omega) (by omega)
 rcases Int.lt_or_le 110 d with h|h
 rotate_left
 .exact ai (f:=λd=>okInt (psiT d) ((KY6.K56 (κ:=κB)).k [.int .i64 d] hE)) u30 (by omega) (by omega)
 rcases Int.lt_or_le 111 d with h|h
 rotate_left
 .exact ai (f:=λd=>okInt (psiT d) ((KY6.K56 (κ:=κB)).k [.int .i64 d] hE)) u31 (by omega) (by omega)
 rcases Int.lt_or_le 112 d with h|h
 rotate_left
 .exact ai (f:=λd=>okInt (psiT d) ((KY6.K56 (κ:=κB)).k [.int .i64 d] hE)) u32 (by omega) (by omega)
 rcases Int.lt_or_le 113 d with h|h
 rotate_left
 .exact ai (f:=λd=>okInt (psiT d) ((KY6.K56 (κ:=κB)).k [.int .i64 d] hE)) u33 (by omega) (by omega)
 rcases Int.lt_or_le 114 d with h|h
 rotate_left
 .exact ai (f:=λd=>okInt (psiT d) ((KY6.K56 (κ:=κB)).k [.int .i64 d] hE)) u34 (by omega) (by omega)
 rcases Int.lt_or_le 115 d with h|h
 rotate_left
 .exact ai (f:=λd=>okInt (psiT d) ((KY6.K56 (κ:=κB)).k [.int .i64 d] hE)) u35 (by omega) (by omega)
 rcases Int.lt_or_le 116 d with h|h
 rotate_left
 .exact ai (f:=λd=>okInt (psiT d) ((KY6.K56 (κ:=κB)).k [.int .i64 d] hE)) u36 (by omega) (by omega)
 rcases Int.lt_or_le 117 d with h|h
 rotate_left
 .exact ai (f:=λd=>okInt (psiT d) ((KY6.K56 (κ:=κB)).k [.int .i64 d] hE)) u37 (by omega) (by omega)
 rcases Int.lt_or_le 118 d with h|h
 rotate_left
 .exact ai (f:=λd=>okInt (psiT d) ((KY6.K56 (κ:=κB)).k [.int .i64 d] hE)) u38 (by omega) (by omega)
 rcases Int.lt_or_le 119 d with h|h
 rotate_left
 .exact ai (f:=λd=>okInt (psiT d) ((KY6.K56 (κ:=κB)).k [.int .i64 d] hE)) u39 (by omega) (by omega)
 exact ai (f:=λd=>okInt (psiT d) ((KY6.K56 (κ:=κB)).k [.int .i64 d] hE)) u40 (by omega) (by omega)
theorem call113{d:Int}(h1:-120<=d)(h2:d<=120)(w:World):Calls Tryz.prog 113 #[.int .i64 d] w λe w'=>e=.returned (.bool (fundB d&&!(intEq d 1)))/\Go.RowKit.Below w.heap.size w w':=by
 obtain⟨H,h⟩:=CZ (t113 h1 h2);refine(scalar (f:=113) (KY6.K113 (κ:=κB)).a h w).mono λe w' ⟨⟨_,_,he,hv⟩,hb⟩=>⟨?_,hb⟩
 rw[he,C2 hv]
theorem call90{d:Int}(h1:-120<=d)(h2:d<=120):∃a f z:Int,decide (z=0/\f=1)=fundB d/\∀w:World,Calls Tryz.prog 90 #[.int .i64 d] w λe w'=>e=.returned (.tuple #[.int .i64 a,.int .i64 f,.int .i64 z])/\Go.RowKit.Below w.heap.size w w':=by obtain⟨a,f,z,H,h,hz⟩:=C0 (t90 h1 h2);refine⟨a,f,z,hz,λw=>(scalar (f:=90) (KY6.K90 (κ:=κB)).a h w).mono λe w' ⟨⟨_,_,he,hv⟩,hb⟩=>⟨?_,hb⟩⟩;rw[he,C4 hv]
theorem call37{d:Int}(h1:1<=d)(h2:d<=120)(w:World):Calls Tryz.prog 37 #[.int .i64 d] w λe w'=>e=.returned (.tuple #[.int .i64 (psiT d),.int .i64 0])/\Go.RowKit.Below w.heap.size w w':=by
 obtain⟨H,h⟩:=C1 (t37 h1 h2);refine(scalar (f:=37) (KY6.K37 (κ:=κB)).a h w).mono λe w' ⟨⟨_,_,he,hv⟩,hb⟩=>⟨?_,hb⟩
 rw[he,C3 hv]
theorem call114{d:Int}(h1:1<=d)(h2:d<=120)(w:World):Calls Tryz.prog 114 #[.int .i64 d] w λe w'=>e=.returned (.int .i64 (psiT d))/\Go.RowKit.Below w.heap.size w w':=by
 obtain⟨H,h⟩:=su (t114 h1 h2);refine(scalar (f:=114) (KY6.K114 (κ:=κB)).a h w).mono λe w' ⟨⟨_,_,he,hv⟩,hb⟩=>⟨?_,hb⟩
 rw[he,aZ hv]
theorem call56{d:Int}(h1:1<=d)(h2:d<=120)(w:World):Calls Tryz.prog 56 #[.int .i64 d] w λe w'=>e=.returned (.int .i64 (psiT d))/\Go.RowKit.Below w.heap.size w w':=by
 obtain⟨H,h⟩:=su (t56 h1 h2);refine(scalar (f:=56) (KY6.K56 (κ:=κB)).a h w).mono λe w' ⟨⟨_,_,he,hv⟩,hb⟩=>⟨?_,hb⟩
 rw[he,aZ hv]
end Go.Ex.KV
namespace Go.Ex.KV
open Go Go.RowKit Go.Proofs
theorem C5(L W D:Int)(w:World)(h:L<1\/120<L\/W<2\/24<W\/D < -120\/120<D):Calls Tryz.prog 36 #[.agg #[.int .i64 L,.int .i64 W,.int .i64 D]] w λe w'=>e=.returned (.int .i64 2)/\RowKit.Below w.heap.size w w':=by
 by_cases h1:L<1
 .clear h;go_enter Tryz.func36,Tryz.ntmps36;go_wp2;go_ret;exact⟨rfl,by first|exact(RowKit.Below.refl _ _).alloc (Nat.le_refl _) _|trace_state⟩
 by_cases h2:120<L
 .clear h;go_enter Tryz.func36,Tryz.ntmps36;go_wp2;go_ret;exact⟨rfl,by first|exact(RowKit.Below.refl _ _).alloc (Nat.le_refl _) _|trace_state⟩
 have h1':1<=L:=by omega
 have h2':L<=120:=by omega
 by_cases h3:W<2
 .clear h;go_enter Tryz.func36,Tryz.ntmps36;go_wp2;go_ret;exact⟨rfl,by first|exact(RowKit.Below.refl _ _).alloc (Nat.le_refl _) _|trace_state⟩
 by_cases h4:24<W
 .clear h;have h3':2<=W:=by omega
  go_enter Tryz.func36,Tryz.ntmps36;go_wp2;go_ret;exact⟨rfl,by first|exact(RowKit.Below.refl _ _).alloc (Nat.le_refl _) _|trace_state⟩
 have h3':2<=W:=by omega
 have h4':W<=24:=by omega
 by_cases h5:D < -120
 .clear h;go_enter Tryz.func36,Tryz.ntmps36;go_wp2;go_ret;exact⟨rfl,by first|exact(RowKit.Below.refl _ _).alloc (Nat.le_refl _) _|trace_state⟩
 have h5':-120<=D:=by omega
 have h6:120<D:=by omega
 clear h;go_enter Tryz.func36,Tryz.ntmps36;go_wp2;go_ret;exact⟨rfl,by first|exact(RowKit.Below.refl _ _).alloc (Nat.le_refl _) _|trace_state⟩
end Go.Ex.KV
namespace Go.Ex.KV
open Go Go.RowKit Go.Proofs
theorem me{W w1:World}(hb:RowKit.Below W.heap.size W w1):(∀b o,b<W.heap.size->w1.cell? ⟨b,o,none⟩=W.cell? ⟨b,o,none⟩)/\(∀b o,b<W.heap.size->w1.frozen? ⟨b,o,none⟩=W.frozen? ⟨b,o,none⟩):=⟨λb o h=>hb.cell (p:=⟨b,o,none⟩) h,λb o h=>hb.frozen (p:=⟨b,o,none⟩) h⟩
theorem C6(L W D:Int)(w:World)(h1:1<=L)(h2:L<=120)(h3:2<=W)(h4:W<=24)(h5:-120<=D)(h6:D<=120)(hf:fundB D=false):Calls Tryz.prog 36 #[.agg #[.int .i64 L,.int .i64 W,.int .i64 D]] w λe w'=>e=.returned (.int .i64 15)/\RowKit.Below w.heap.size w w':=by
 obtain⟨a,f,z,hz,hc⟩:=call90 h5 h6;rw[hf]at hz;have HC:=Lib.hid hc;clear hc hf;by_cases h0:z=0
 .have hf1:f≠1:=λh=>by subst h;subst h0;simp at hz
  subst h0;clear hz;have hn:(f==1)=false:=beq_false_of_ne hf1;have hn':(f !=1)=true:=by rw[bne,hn];rfl
  clear hf1;go_enter Tryz.func36,Tryz.ntmps36;go_wp2_with fail;refine(HC.out _).mono ?_;rintro e w' ⟨rfl,hb⟩;go_wp2;go_ret;exact⟨rfl,((RowKit.Below.refl _ _).alloc (Nat.le_refl _) _).trans (hb.mono (by simp))⟩
 .have hn:(z==0)=false:=beq_false_of_ne h0;have hn':(z !=0)=true:=by rw[bne,hn];rfl
  clear h0 hz;go_enter Tryz.func36,Tryz.ntmps36;go_wp2_with fail;refine(HC.out _).mono ?_;rintro e w' ⟨rfl,hb⟩;go_wp2;go_ret;exact⟨rfl,((RowKit.Below.refl _ _).alloc (Nat.le_refl _) _).trans (hb.mono (by simp))⟩
structure SpecAt(w w1:World)(L W D:Int):Prop where
 c0:w1.cell? ⟨w.heap.size,0,none⟩=some (.int .i64 L)
 c1:w1.cell? ⟨w.heap.size,1,none⟩=some (.int .i64 W)
 c2:w1.cell? ⟨w.heap.size,2,none⟩=some (.int .i64 D)
 lt:w.heap.size<w1.heap.size
 below:RowKit.Below w.heap.size w w1
theorem SpecAt.box{w w1:World}{L W D:Int}{t:TypeId}(hb:RowKit.Below (w.alloc (.cells #[.int .i64 L,.int .i64 W,.int .i64 D] t)).heap.size (w.alloc (.cells #[.int .i64 L,.int .i64 W,.int .i64 D] t)) w1):SpecAt w w1 L W D:=by
 have hs:(w.alloc (.cells #[.int .i64 L,.int .i64 W,.int .i64 D] t)).heap.size=w.heap.size+1:=by unfold World.alloc;simp
 obtain⟨hc,_⟩:=me hb;rw[hs]at hc;refine⟨?_,?_,?_,?_,((RowKit.Below.refl _ _).alloc (Nat.le_refl _) _).trans (hb.mono (by rw[hs];omega))⟩
 .rw[hc _ _ (by omega)];exact(World.cell?_alloc_at _ _ _ _ rfl).trans rfl
 .rw[hc _ _ (by omega)];exact(World.cell?_alloc_at _ _ _ _ rfl).trans rfl
 .rw[hc _ _ (by omega)];exact(World.cell?_alloc_at _ _ _ _ rfl).trans rfl
 .have:=hb.size;rw[hs]at this;omega
theorem SpecAt.later{w w1 w2:World}{L W D:Int}(h:SpecAt w w1 L W D)(hb:RowKit.Below w1.heap.size w1 w2):SpecAt w w2 L W D:=by obtain⟨hc,_⟩:=me hb;exact⟨(hc _ _ h.lt).trans h.c0,(hc _ _ h.lt).trans h.c1,(hc _ _ h.lt).trans h.c2,Nat.lt_of_lt_of_le h.lt hb.size,h.below.trans (hb.mono (Nat.le_of_lt h.lt))⟩
theorem bg{L:Int}(h1:1<=L)(h2:L<=120):1<=psiT L/\psiT L<=300:=by
 have hall:∀n,n<120->(decide (1<=Pe.getD (n+1) 0)&&decide (Pe.getD (n+1) 0<=300))=true:=by decide
 have:=hall (L.toNat-1) (by omega);rw[show L.toNat-1+1=L.toNat by omega,Bool.and_eq_true]at this;exact⟨of_decide_eq_true this.1,of_decide_eq_true this.2⟩
theorem C7(L W D:Int)(w:World)(h1:1<=L)(h2:L<=120)(h3:2<=W)(h4:W<=24)(h5:-120<=D)(h6:D<=120)(hf:fundB D=true)(hD:¬D=0)(hl:(L%D !=0)=true):Calls Tryz.prog 36 #[.agg #[.int .i64 L,.int .i64 W,.int .i64 D]] w λe w'=>e=.returned (.int .i64 14)/\RowKit.Below w.heap.size w w':=by obtain⟨a,f,z,hz,hc⟩:=call90 h5 h6;rw[hf]at hz;have HC:=Lib.hid hc;clear hc hf;obtain⟨rfl,rfl⟩:z=0/\f=1:=of_decide_eq_true hz;clear hz;have hps:=bg h1 h2;have HP:=Lib.hid (λw=>call37 h1 h2 w);generalize psiT L=s at *;obtain⟨hs1,hs2⟩:=hps;have hm0:0<=s*(W-1):=Int.mul_nonneg (by omega) (by omega);have hm1:s*(W-1)<=300*23:=Int.mul_le_mul hs2 (by omega) (by omega) (by omega);go_enter Tryz.func36,Tryz.ntmps36;go_wp2_with fail;refine(HC.out _).mono ?_;rintro e w1 ⟨rfl,hb⟩;have S1:=SpecAt.box hb;clear hb;have e0:=S1.c0;go_wp2_with fail;refine(HP.out _).mono ?_;rintro e w2 ⟨rfl,hb2⟩;have S2:=S1.later hb2;clear e0 hb2;have e0:=S2.c0;have e1:=S2.c1;have e2:=S2.c2;go_wp2;go_ret;exact⟨rfl,S2.below⟩
theorem C9(L W D:Int)(w:World)(h1:1<=L)(h2:L<=120)(h3:2<=W)(h4:W<=24)(h5:-120<=D)(h6:D<=120)(hf:fundB D=true)(hD:¬D=0)(hl:(L%D !=0)=false)(hn:D<0)(hw:(W%2==1)=false):Calls Tryz.prog 36 #[.agg #[.int .i64 L,.int .i64 W,.int .i64 D]] w λe w'=>e=.returned (.int .i64 16)/\RowKit.Below w.heap.size w w':=by obtain⟨a,f,z,hz,hc⟩:=call90 h5 h6;rw[hf]at hz;have HC:=Lib.hid hc;clear hc hf;obtain⟨rfl,rfl⟩:z=0/\f=1:=of_decide_eq_true hz;clear hz;have hps:=bg h1 h2;have HP:=Lib.hid (λw=>call37 h1 h2 w);generalize psiT L=s at *;obtain⟨hs1,hs2⟩:=hps;have hm0:0<=s*(W-1):=Int.mul_nonneg (by omega) (by omega);have hm1:s*(W-1)<=300*23:=Int.mul_le_mul hs2 (by omega) (by omega) (by omega);go_enter Tryz.func36,Tryz.ntmps36;go_wp2_with fail;refine(HC.out _).mono ?_;rintro e w1 ⟨rfl,hb⟩;have S1:=SpecAt.box hb;clear hb;have e0:=S1.c0;go_wp2_with fail;refine(HP.out _).mono ?_;rintro e w2 ⟨rfl,hb2⟩;have S2:=S1.later hb2;clear e0 hb2;have e0:=S2.c0;have e1:=S2.c1;have e2:=S2.c2;go_wp2;go_ret;exact⟨rfl,S2.below⟩
theorem C_(L W D:Int)(w:World)(h1:1<=L)(h2:L<=120)(h3:2<=W)(h4:W<=24)(h5:-120<=D)(h6:D<=120)(hf:fundB D=true)(hD:¬D=0)(hl:(L%D !=0)=false)(hn:0<=D)(hw:(W%2==1)=true):Calls Tryz.prog 36 #[.agg #[.int .i64 L,.int .i64 W,.int .i64 D]] w λe w'=>e=.returned (.int .i64 16)/\RowKit.Below w.heap.size w w':=by obtain⟨a,f,z,hz,hc⟩:=call90 h5 h6;rw[hf]at hz;have HC:=Lib.hid hc;clear hc hf;obtain⟨rfl,rfl⟩:z=0/\f=1:=of_decide_eq_true hz;clear hz;have hps:=bg h1 h2;have HP:=Lib.hid (λw=>call37 h1 h2 w);generalize psiT L=s at *;obtain⟨hs1,hs2⟩:=hps;have hm0:0<=s*(W-1):=Int.mul_nonneg (by omega) (by omega);have hm1:s*(W-1)<=300*23:=Int.mul_le_mul hs2 (by omega) (by omega) (by omega);have hd:decide (D<0)=false:=decide_eq_false (by omega);go_enter Tryz.func36,Tryz.ntmps36;go_wp2_with fail;refine(HC.out _).mono ?_;rintro e w1 ⟨rfl,hb⟩;have S1:=SpecAt.box hb;clear hb;have e0:=S1.c0;go_wp2_with fail;refine(HP.out _).mono ?_;rintro e w2 ⟨rfl,hb2⟩;have S2:=S1.later hb2;clear e0 hb2;have e0:=S2.c0;have e1:=S2.c1;have e2:=S2.c2;go_wp2;go_ret;exact⟨rfl,S2.below⟩
theorem Da(L W D:Int)(w:World)(h1:1<=L)(h2:L<=120)(h3:2<=W)(h4:W<=24)(h5:-120<=D)(h6:D<=120)(hf:fundB D=true)(hD:¬D=0)(hl:(L%D !=0)=false)(hn:D<0)(hw:(W%2==1)=true)(hp:512<psiT L*(W-1)):Calls Tryz.prog 36 #[.agg #[.int .i64 L,.int .i64 W,.int .i64 D]] w λe w'=>e=.returned (.int .i64 7)/\RowKit.Below w.heap.size w w':=by obtain⟨a,f,z,hz,hc⟩:=call90 h5 h6;rw[hf]at hz;have HC:=Lib.hid hc;clear hc hf;obtain⟨rfl,rfl⟩:z=0/\f=1:=of_decide_eq_true hz;clear hz;have hps:=bg h1 h2;have HP:=Lib.hid (λw=>call37 h1 h2 w);generalize psiT L=s at *;obtain⟨hs1,hs2⟩:=hps;have hm0:0<=s*(W-1):=Int.mul_nonneg (by omega) (by omega);have hm1:s*(W-1)<=300*23:=Int.mul_le_mul hs2 (by omega) (by omega) (by omega);go_enter Tryz.func36,Tryz.ntmps36;go_wp2_with fail;refine(HC.out _).mono ?_;rintro e w1 ⟨rfl,hb⟩;have S1:=SpecAt.box hb;clear hb;have e0:=S1.c0;go_wp2_with fail;refine(HP.out _).mono ?_;rintro e w2 ⟨rfl,hb2⟩;have S2:=S1.later hb2;clear e0 hb2;have e0:=S2.c0;have e1:=S2.c1;have e2:=S2.c2;go_wp2;go_ret;exact⟨rfl,S2.below⟩
theorem Db(L W D:Int)(w:World)(h1:1<=L)(h2:L<=120)(h3:2<=W)(h4:W<=24)(h5:-120<=D)(h6:D<=120)(hf:fundB D=true)(hD:¬D=0)(hl:(L%D !=0)=false)(hn:0<=D)(hw:(W%2==1)=false)(hp:512<psiT L*(W-1)):Calls Tryz.prog 36 #[.agg #[.int .i64 L,.int .i64 W,.int .i64 D]] w λe w'=>e=.returned (.int .i64 7)/\RowKit.Below w.heap.size w w':=by obtain⟨a,f,z,hz,hc⟩:=call90 h5 h6;rw[hf]at hz;have HC:=Lib.hid hc;clear hc hf;obtain⟨rfl,rfl⟩:z=0/\f=1:=of_decide_eq_true hz;clear hz;have hps:=bg h1 h2;have HP:=Lib.hid (λw=>call37 h1 h2 w);generalize psiT L=s at *;obtain⟨hs1,hs2⟩:=hps;have hm0:0<=s*(W-1):=Int.mul_nonneg (by omega) (by omega);have hm1:s*(W-1)<=300*23:=Int.mul_le_mul hs2 (by omega) (by omega) (by omega);have hd:decide (D<0)=false:=decide_eq_false (by omega);go_enter Tryz.func36,Tryz.ntmps36;go_wp2_with fail;refine(HC.out _).mono ?_;rintro e w1 ⟨rfl,hb⟩;have S1:=SpecAt.box hb;clear hb;have e0:=S1.c0;go_wp2_with fail;refine(HP.out _).mono ?_;rintro e w2 ⟨rfl,hb2⟩;have S2:=S1.later hb2;clear e0 hb2;have e0:=S2.c0;have e1:=S2.c1;have e2:=S2.c2;go_wp2;go_ret;exact⟨rfl,S2.below⟩
theorem Dc(L W D:Int)(w:World)(h1:1<=L)(h2:L<=120)(h3:2<=W)(h4:W<=24)(h5:-120<=D)(h6:D<=120)(hf:fundB D=true)(hD:¬D=0)(hl:(L%D !=0)=false)(hn:D<0)(hw:(W%2==1)=true)(hp:psiT L*(W-1)<=512):Calls Tryz.prog 36 #[.agg #[.int .i64 L,.int .i64 W,.int .i64 D]] w λe w'=>e=.returned (.int .i64 0)/\RowKit.Below w.heap.size w w':=by obtain⟨a,f,z,hz,hc⟩:=call90 h5 h6;rw[hf]at hz;have HC:=Lib.hid hc;clear hc hf;obtain⟨rfl,rfl⟩:z=0/\f=1:=of_decide_eq_true hz;clear hz;have hps:=bg h1 h2;have HP:=Lib.hid (λw=>call37 h1 h2 w);generalize psiT L=s at *;obtain⟨hs1,hs2⟩:=hps;have hm0:0<=s*(W-1):=Int.mul_nonneg (by omega) (by omega);have hm1:s*(W-1)<=300*23:=Int.mul_le_mul hs2 (by omega) (by omega) (by omega);go_enter Tryz.func36,Tryz.ntmps36;go_wp2_with fail;refine(HC.out _).mono ?_;rintro e w1 ⟨rfl,hb⟩;have S1:=SpecAt.box hb;clear hb;have e0:=S1.c0;go_wp2_with fail;refine(HP.out _).mono ?_;rintro e w2 ⟨rfl,hb2⟩;have S2:=S1.later hb2;clear e0 hb2;have e0:=S2.c0;have e1:=S2.c1;have e2:=S2.c2;go_wp2;go_ret;exact⟨rfl,S2.below⟩
theorem Dd(L W D:Int)(w:World)(h1:1<=L)(h2:L<=120)(h3:2<=W)(h4:W<=24)(h5:-120<=D)(h6:D<=120)(hf:fundB D=true)(hD:¬D=0)(hl:(L%D !=0)=false)(hn:0<=D)(hw:(W%2==1)=false)(hp:psiT L*(W-1)<=512):Calls Tryz.prog 36 #[.agg #[.int .i64 L,.int .i64 W,.int .i64 D]] w λe w'=>e=.returned (.int .i64 0)/\RowKit.Below w.heap.size w w':=by obtain⟨a,f,z,hz,hc⟩:=call90 h5 h6;rw[hf]at hz;have HC:=Lib.hid hc;clear hc hf;obtain⟨rfl,rfl⟩:z=0/\f=1:=of_decide_eq_true hz;clear hz;have hps:=bg h1 h2;have HP:=Lib.hid (λw=>call37 h1 h2 w);generalize psiT L=s at *;obtain⟨hs1,hs2⟩:=hps;have hm0:0<=s*(W-1):=Int.mul_nonneg (by omega) (by omega);have hm1:s*(W-1)<=300*23:=Int.mul_le_mul hs2 (by omega) (by omega) (by omega);have hd:decide (D<0)=false:=decide_eq_false (by omega);go_enter Tryz.func36,Tryz.ntmps36;go_wp2_with fail;refine(HC.out _).mono ?_;rintro e w1 ⟨rfl,hb⟩;have S1:=SpecAt.box hb;clear hb;have e0:=S1.c0;go_wp2_with fail;refine(HP.out _).mono ?_;rintro e w2 ⟨rfl,hb2⟩;have S2:=S1.later hb2;clear e0 hb2;have e0:=S2.c0;have e1:=S2.c1;have e2:=S2.c2;go_wp2;go_ret;exact⟨rfl,S2.below⟩
end Go.Ex.KV
namespace Go.Ex.KV
open Go Go.RowKit Go.Proofs
def Fa(L W D:Int):Int:=
 if L<1\/120<L\/W<2\/24<W\/D < -120\/120<D then 2
 else if fundB D=false then 15
 else if L%D≠0 then 14
 else if decide (D<0)≠(W%2==1)then 16
 else if 512<psiT L*(W-1)then 7
 else 0
theorem mf:fundB 0=false:=by decide
theorem De(L W D:Int)(w:World):Calls Tryz.prog 36 #[.agg #[.int .i64 L,.int .i64 W,.int .i64 D]] w λe w'=>e=.returned (.int .i64 (Fa L W D))/\RowKit.Below w.heap.size w w':=by
 by_cases h:L<1\/120<L\/W<2\/24<W\/D < -120\/120<D
 .rw[show Fa L W D=2 by unfold Fa;rw[if_pos h]];exact C5 L W D w h
 have h1:1<=L:=by omega
 have h2:L<=120:=by omega
 have h3:2<=W:=by omega
 have h4:W<=24:=by omega
 have h5:-120<=D:=by omega
 have h6:D<=120:=by omega
 cases hf:fundB D with
 |false=>rw[show Fa L W D=15 by unfold Fa;rw[if_neg h,if_pos hf]];exact C6 L W D w h1 h2 h3 h4 h5 h6 hf
 |true=>
  have hD:¬D=0:=λe=>by subst e;rw[mf]at hf;cases hf
  have hf':¬fundB D=false:=by rw[hf];simp
  by_cases hl:L%D≠0
  .rw[show Fa L W D=14 by unfold Fa;rw[if_neg h,if_neg hf',if_pos hl]];exact C7 L W D w h1 h2 h3 h4 h5 h6 hf hD (by simpa using hl)
  have hl':(L%D !=0)=false:=by simpa using hl
  by_cases hp:decide (D<0)≠(W%2==1)
  .rw[show Fa L W D=16 by unfold Fa;rw[if_neg h,if_neg hf',if_neg hl,if_pos hp]];by_cases hn:D<0
   .exact C9 L W D w h1 h2 h3 h4 h5 h6 hf hD hl' hn (by cases hq:W%2==1<;>simp[hn,hq]at hp⊢)
   .exact C_ L W D w h1 h2 h3 h4 h5 h6 hf hD hl' (by omega) (by cases hq:W%2==1<;>simp[hn,hq]at hp⊢)
  by_cases hs:512<psiT L*(W-1)
  .rw[show Fa L W D=7 by unfold Fa;rw[if_neg h,if_neg hf',if_neg hl,if_neg hp,if_pos hs]];by_cases hn:D<0
   .exact Da L W D w h1 h2 h3 h4 h5 h6 hf hD hl' hn (by cases hq:W%2==1<;>simp[hn,hq]at hp⊢) hs
   .exact Db L W D w h1 h2 h3 h4 h5 h6 hf hD hl' (by omega) (by cases hq:W%2==1<;>simp[hn,hq]at hp⊢) hs
  .rw[show Fa L W D=0 by unfold Fa;rw[if_neg h,if_neg hf',if_neg hl,if_neg hp,if_neg hs]];by_cases hn:D<0
   .exact Dc L W D w h1 h2 h3 h4 h5 h6 hf hD hl' hn (by cases hq:W%2==1<;>simp[hn,hq]at hp⊢) (by omega)
   .exact Dd L W D w h1 h2 h3 h4 h5 h6 hf hD hl' (by omega) (by cases hq:W%2==1<;>simp[hn,hq]at hp⊢) (by omega)
theorem sw{L W D:Int}(h:Fa L W D=0):1<=L/\L<=120/\-120<=D/\D<=120/\D≠0:=by
 unfold Fa at h;split at h
 .cases h
 .split at h
  .cases h
  .rename_i h1 h2;refine⟨by omega,by omega,by omega,by omega,λe=>h2 ?_⟩;subst e;exact mf
end Go.Ex.KV
namespace Go.Ex.KV
open Go Go.RowKit Go.Proofs
theorem Df(L W D:Int)(w:World)(h:L<1\/120<L\/W<2\/24<W\/D < -120\/120<D):Calls Tryz.prog 55 #[.agg #[.int .i64 L,.int .i64 W,.int .i64 D]] w λe w'=>e=.returned (.int .i64 2)/\RowKit.Below w.heap.size w w':=by
 by_cases h1:L<1
 .clear h;go_enter Tryz.func55,Tryz.ntmps55;go_wp2;go_ret;exact⟨rfl,by first|exact(RowKit.Below.refl _ _).alloc (Nat.le_refl _) _|trace_state⟩
 by_cases h2:120<L
 .clear h;go_enter Tryz.func55,Tryz.ntmps55;go_wp2;go_ret;exact⟨rfl,by first|exact(RowKit.Below.refl _ _).alloc (Nat.le_refl _) _|trace_state⟩
 have h1':1<=L:=by omega
 have h2':L<=120:=by omega
 by_cases h3:W<2
 .clear h;go_enter Tryz.func55,Tryz.ntmps55;go_wp2;go_ret;exact⟨rfl,by first|exact(RowKit.Below.refl _ _).alloc (Nat.le_refl _) _|trace_state⟩
 by_cases h4:24<W
 .clear h;have h3':2<=W:=by omega
  go_enter Tryz.func55,Tryz.ntmps55;go_wp2;go_ret;exact⟨rfl,by first|exact(RowKit.Below.refl _ _).alloc (Nat.le_refl _) _|trace_state⟩
 have h3':2<=W:=by omega
 have h4':W<=24:=by omega
 by_cases h5:D < -120
 .clear h;go_enter Tryz.func55,Tryz.ntmps55;go_wp2;go_ret;exact⟨rfl,by first|exact(RowKit.Below.refl _ _).alloc (Nat.le_refl _) _|trace_state⟩
 have h5':-120<=D:=by omega
 have h6:120<D:=by omega
 clear h;go_enter Tryz.func55,Tryz.ntmps55;go_wp2;go_ret;exact⟨rfl,by first|exact(RowKit.Below.refl _ _).alloc (Nat.le_refl _) _|trace_state⟩
theorem Dg(L W D:Int)(w:World)(h1:1<=L)(h2:L<=120)(h3:2<=W)(h4:W<=24)(h5:-120<=D)(h6:D<=120)(hf:fundB D=false):Calls Tryz.prog 55 #[.agg #[.int .i64 L,.int .i64 W,.int .i64 D]] w λe w'=>e=.returned (.int .i64 15)/\RowKit.Below w.heap.size w w':=by
 have hD1:D≠1:=λh=>by subst h;exact absurd hf (by decide)
 have HC:=Lib.hid (λw=>call113 h5 h6 w);rw[hf]at HC;clear hf;have hn:(D==1)=false:=beq_false_of_ne hD1;have hn':(D !=1)=true:=by rw[bne,hn];rfl
 clear hD1;go_enter Tryz.func55,Tryz.ntmps55;go_wp2_with fail;refine(HC.out _).mono ?_;rintro e w1 ⟨rfl,hb⟩;have S1:=SpecAt.box hb;clear hb;go_wp2;go_ret;exact⟨rfl,S1.below⟩
theorem Dh(L W D:Int)(w:World)(h1:1<=L)(h2:L<=120)(h3:2<=W)(h4:W<=24)(h5:-120<=D)(h6:D<=120)(hD:¬D=0)(hD1:(D==1)=true)(hl:(L%D !=0)=true):Calls Tryz.prog 55 #[.agg #[.int .i64 L,.int .i64 W,.int .i64 D]] w λe w'=>e=.returned (.int .i64 14)/\RowKit.Below w.heap.size w w':=by
 have hD2:(D !=1)=false:=by rw[bne,hD1];rfl
 go_enter Tryz.func55,Tryz.ntmps55;go_wp2;go_ret;exact⟨rfl,(RowKit.Below.refl _ _).alloc (Nat.le_refl _) _⟩
theorem Di(L W D:Int)(w:World)(h1:1<=L)(h2:L<=120)(h3:2<=W)(h4:W<=24)(h5:-120<=D)(h6:D<=120)(hf:fundB D=true)(hD:¬D=0)(hD1:(D==1)=false)(hl:(L%D !=0)=true):Calls Tryz.prog 55 #[.agg #[.int .i64 L,.int .i64 W,.int .i64 D]] w λe w'=>e=.returned (.int .i64 14)/\RowKit.Below w.heap.size w w':=by
 have hi:intEq D 1=false:=by
  cases hq:intEq D 1
  .rfl
  .rw[bX.1 hq]at hD1;cases hD1
 have HC:=Lib.hid (λw=>call113 h5 h6 w);rw[hf,hi]at HC;clear hf hi;have hD2:(D !=1)=true:=by rw[bne,hD1];rfl
 go_enter Tryz.func55,Tryz.ntmps55;go_wp2_with fail;refine(HC.out _).mono ?_;rintro e w1 ⟨rfl,hb⟩;have S1:=SpecAt.box hb;clear hb;have e0:=S1.c0;have e1:=S1.c1;have e2:=S1.c2;go_wp2;go_ret;exact⟨rfl,S1.below⟩
theorem Dj(L W D:Int)(w:World)(h1:1<=L)(h2:L<=120)(h3:2<=W)(h4:W<=24)(h5:-120<=D)(h6:D<=120)(hf:fundB D=true)(hD:¬D=0)(hD1:(D==1)=false)(hl:(L%D !=0)=false)(hn:D<=0)(hw:(W%2==0)=true):Calls Tryz.prog 55 #[.agg #[.int .i64 L,.int .i64 W,.int .i64 D]] w λe w'=>e=.returned (.int .i64 16)/\RowKit.Below w.heap.size w w':=by
 have hi:intEq D 1=false:=by
  cases hq:intEq D 1
  .rfl
  .rw[bX.1 hq]at hD1;cases hD1
 have HC:=Lib.hid (λw=>call113 h5 h6 w);rw[hf,hi]at HC;clear hf hi;have hD2:(D !=1)=true:=by rw[bne,hD1];rfl
 have hd:decide (0<D)=false:=decide_eq_false (by omega);go_enter Tryz.func55,Tryz.ntmps55;go_wp2_with fail;refine(HC.out _).mono ?_;rintro e w1 ⟨rfl,hb⟩;have S1:=SpecAt.box hb;clear hb;have e0:=S1.c0;have e1:=S1.c1;have e2:=S1.c2;go_wp2;go_ret;exact⟨rfl,S1.below⟩
theorem Dk(L W D:Int)(w:World)(h1:1<=L)(h2:L<=120)(h3:2<=W)(h4:W<=24)(h5:-120<=D)(h6:D<=120)(hD:¬D=0)(hD1:(D==1)=true)(hl:(L%D !=0)=false)(hn:0<D)(hw:(W%2==0)=false):Calls Tryz.prog 55 #[.agg #[.int .i64 L,.int .i64 W,.int .i64 D]] w λe w'=>e=.returned (.int .i64 16)/\RowKit.Below w.heap.size w w':=by
 have hD2:(D !=1)=false:=by rw[bne,hD1];rfl
 have hd:decide (0<D)=true:=decide_eq_true (by omega);go_enter Tryz.func55,Tryz.ntmps55;go_wp2;go_ret;exact⟨rfl,(RowKit.Below.refl _ _).alloc (Nat.le_refl _) _⟩
theorem Dl(L W D:Int)(w:World)(h1:1<=L)(h2:L<=120)(h3:2<=W)(h4:W<=24)(h5:-120<=D)(h6:D<=120)(hf:fundB D=true)(hD:¬D=0)(hD1:(D==1)=false)(hl:(L%D !=0)=false)(hn:0<D)(hw:(W%2==0)=false):Calls Tryz.prog 55 #[.agg #[.int .i64 L,.int .i64 W,.int .i64 D]] w λe w'=>e=.returned (.int .i64 16)/\RowKit.Below w.heap.size w w':=by
 have hi:intEq D 1=false:=by
  cases hq:intEq D 1
  .rfl
  .rw[bX.1 hq]at hD1;cases hD1
 have HC:=Lib.hid (λw=>call113 h5 h6 w);rw[hf,hi]at HC;clear hf hi;have hD2:(D !=1)=true:=by rw[bne,hD1];rfl
 have hd:decide (0<D)=true:=decide_eq_true (by omega);go_enter Tryz.func55,Tryz.ntmps55;go_wp2_with fail;refine(HC.out _).mono ?_;rintro e w1 ⟨rfl,hb⟩;have S1:=SpecAt.box hb;clear hb;have e0:=S1.c0;have e1:=S1.c1;have e2:=S1.c2;go_wp2;go_ret;exact⟨rfl,S1.below⟩
end Go.Ex.KV
namespace Go.Ex.KV
open Go Go.RowKit Go.Proofs
theorem Dm(L W D:Int)(w:World)(h1:1<=L)(h2:L<=120)(h3:2<=W)(h4:W<=24)(h5:-120<=D)(h6:D<=120)(hf:fundB D=true)(hD:¬D=0)(hD1:(D==1)=false)(hl:(L%D !=0)=false)(hn:D<=0)(hw:(W%2==0)=false)(hp:512<psiT L*(W-1)):Calls Tryz.prog 55 #[.agg #[.int .i64 L,.int .i64 W,.int .i64 D]] w λe w'=>e=.returned (.int .i64 7)/\RowKit.Below w.heap.size w w':=by
 have hi:intEq D 1=false:=by
  cases hq:intEq D 1
  .rfl
  .rw[bX.1 hq]at hD1;cases hD1
 have HC:=Lib.hid (λw=>call113 h5 h6 w);rw[hf,hi]at HC;clear hf hi;have hD2:(D !=1)=true:=by rw[bne,hD1];rfl
 have hps:=bg h1 h2;have HP:=Lib.hid (λw=>call114 h1 h2 w);generalize psiT L=s at *;obtain⟨hs1,hs2⟩:=hps;have hm0:0<=s*(W-1):=Int.mul_nonneg (by omega) (by omega);have hm1:s*(W-1)<=300*23:=Int.mul_le_mul hs2 (by omega) (by omega) (by omega);have q1:IntKind.i64.wrap (W-1)=W-1:=IntWalk.i64_in _ (by omega);have q2:IntKind.i64.wrap (s*(W-1))=s*(W-1):=IntWalk.i64_in _ (by omega);have hd:decide (0<D)=false:=decide_eq_false (by omega);go_enter Tryz.func55,Tryz.ntmps55;go_wp2_with fail;refine(HC.out _).mono ?_;rintro e w1 ⟨rfl,hb⟩;have S1:=SpecAt.box hb;clear hb;have e0:=S1.c0;have e1:=S1.c1;have e2:=S1.c2;go_wp2
 go_region_with (go_at_call 114;refine(HP.out _).mono ?_;rintro e w2 ⟨rfl,hb2⟩;have S2:=S1.later (w2:=w2) ⟨hb2.os,hb2.tape,hb2.output,hb2.size,hb2.block⟩;have f1:=S2.c1)
 all_goals
  go_wp2;go_ret;exact⟨rfl,⟨S2.below.os,S2.below.tape,S2.below.output,S2.below.size,S2.below.block⟩⟩
theorem Dn(L W D:Int)(w:World)(h1:1<=L)(h2:L<=120)(h3:2<=W)(h4:W<=24)(h5:-120<=D)(h6:D<=120)(hD:¬D=0)(hD1:(D==1)=true)(hl:(L%D !=0)=false)(hn:0<D)(hw:(W%2==0)=true)(hp:512<psiT L*(W-1)):Calls Tryz.prog 55 #[.agg #[.int .i64 L,.int .i64 W,.int .i64 D]] w λe w'=>e=.returned (.int .i64 7)/\RowKit.Below w.heap.size w w':=by
 have hD2:(D !=1)=false:=by rw[bne,hD1];rfl
 have hps:=bg h1 h2;have HP:=Lib.hid (λw=>call114 h1 h2 w);generalize psiT L=s at *;obtain⟨hs1,hs2⟩:=hps;have hm0:0<=s*(W-1):=Int.mul_nonneg (by omega) (by omega);have hm1:s*(W-1)<=300*23:=Int.mul_le_mul hs2 (by omega) (by omega) (by omega);have q1:IntKind.i64.wrap (W-1)=W-1:=IntWalk.i64_in _ (by omega);have q2:IntKind.i64.wrap (s*(W-1))=s*(W-1):=IntWalk.i64_in _ (by omega);have hd:decide (0<D)=true:=decide_eq_true (by omega);go_enter Tryz.func55,Tryz.ntmps55;go_wp2
 go_region_with (go_at_call 114;refine(HP.out _).mono ?_;rintro e w2 ⟨rfl,hb2⟩;have S2:=SpecAt.box (w:=w) (w1:=w2) ⟨hb2.os,hb2.tape,hb2.output,hb2.size,hb2.block⟩;have f1:=S2.c1)
 all_goals
  go_wp2;go_ret;exact⟨rfl,⟨S2.below.os,S2.below.tape,S2.below.output,S2.below.size,S2.below.block⟩⟩
theorem Dp(L W D:Int)(w:World)(h1:1<=L)(h2:L<=120)(h3:2<=W)(h4:W<=24)(h5:-120<=D)(h6:D<=120)(hf:fundB D=true)(hD:¬D=0)(hD1:(D==1)=false)(hl:(L%D !=0)=false)(hn:0<D)(hw:(W%2==0)=true)(hp:512<psiT L*(W-1)):Calls Tryz.prog 55 #[.agg #[.int .i64 L,.int .i64 W,.int .i64 D]] w λe w'=>e=.returned (.int .i64 7)/\RowKit.Below w.heap.size w w':=by
 have hi:intEq D 1=false:=by
  cases hq:intEq D 1
  .rfl
  .rw[bX.1 hq]at hD1;cases hD1
 have HC:=Lib.hid (λw=>call113 h5 h6 w);rw[hf,hi]at HC;clear hf hi;have hD2:(D !=1)=true:=by rw[bne,hD1];rfl
 have hps:=bg h1 h2;have HP:=Lib.hid (λw=>call114 h1 h2 w);generalize psiT L=s at *;obtain⟨hs1,hs2⟩:=hps;have hm0:0<=s*(W-1):=Int.mul_nonneg (by omega) (by omega);have hm1:s*(W-1)<=300*23:=Int.mul_le_mul hs2 (by omega) (by omega) (by omega);have q1:IntKind.i64.wrap (W-1)=W-1:=IntWalk.i64_in _ (by omega);have q2:IntKind.i64.wrap (s*(W-1))=s*(W-1):=IntWalk.i64_in _ (by omega);have hd:decide (0<D)=true:=decide_eq_true (by omega);go_enter Tryz.func55,Tryz.ntmps55;go_wp2_with fail;refine(HC.out _).mono ?_;rintro e w1 ⟨rfl,hb⟩;have S1:=SpecAt.box hb;clear hb;have e0:=S1.c0;have e1:=S1.c1;have e2:=S1.c2;go_wp2
 go_region_with (go_at_call 114;refine(HP.out _).mono ?_;rintro e w2 ⟨rfl,hb2⟩;have S2:=S1.later (w2:=w2) ⟨hb2.os,hb2.tape,hb2.output,hb2.size,hb2.block⟩;have f1:=S2.c1)
 all_goals
  go_wp2;go_ret;exact⟨rfl,⟨S2.below.os,S2.below.tape,S2.below.output,S2.below.size,S2.below.block⟩⟩
end Go.Ex.KV
namespace Go.Ex.KV
open Go Go.RowKit Go.Proofs
theorem Dq(L W D:Int)(w:World)(h1:1<=L)(h2:L<=120)(h3:2<=W)(h4:W<=24)(h5:-120<=D)(h6:D<=120)(hf:fundB D=true)(hD:¬D=0)(hD1:(D==1)=false)(hl:(L%D !=0)=false)(hn:D<=0)(hw:(W%2==0)=false)(hp:psiT L*(W-1)<=512):Calls Tryz.prog 55 #[.agg #[.int .i64 L,.int .i64 W,.int .i64 D]] w λe w'=>e=.returned (.int .i64 0)/\RowKit.Below w.heap.size w w':=by
 have hi:intEq D 1=false:=by
  cases hq:intEq D 1
  .rfl
  .rw[bX.1 hq]at hD1;cases hD1
 have HC:=Lib.hid (λw=>call113 h5 h6 w);rw[hf,hi]at HC;clear hf hi;have hD2:(D !=1)=true:=by rw[bne,hD1];rfl
 have hps:=bg h1 h2;have HP:=Lib.hid (λw=>call114 h1 h2 w);generalize psiT L=s at *;obtain⟨hs1,hs2⟩:=hps;have hm0:0<=s*(W-1):=Int.mul_nonneg (by omega) (by omega);have hm1:s*(W-1)<=300*23:=Int.mul_le_mul hs2 (by omega) (by omega) (by omega);have q1:IntKind.i64.wrap (W-1)=W-1:=IntWalk.i64_in _ (by omega);have q2:IntKind.i64.wrap (s*(W-1))=s*(W-1):=IntWalk.i64_in _ (by omega);have hd:decide (0<D)=false:=decide_eq_false (by omega);go_enter Tryz.func55,Tryz.ntmps55;go_wp2_with fail;refine(HC.out _).mono ?_;rintro e w1 ⟨rfl,hb⟩;have S1:=SpecAt.box hb;clear hb;have e0:=S1.c0;have e1:=S1.c1;have e2:=S1.c2;go_wp2
 go_region_with (go_at_call 114;refine(HP.out _).mono ?_;rintro e w2 ⟨rfl,hb2⟩;have S2:=S1.later (w2:=w2) ⟨hb2.os,hb2.tape,hb2.output,hb2.size,hb2.block⟩;have f1:=S2.c1)
 all_goals
  go_wp2;go_ret;exact⟨rfl,⟨S2.below.os,S2.below.tape,S2.below.output,S2.below.size,S2.below.block⟩⟩
theorem Dr(L W D:Int)(w:World)(h1:1<=L)(h2:L<=120)(h3:2<=W)(h4:W<=24)(h5:-120<=D)(h6:D<=120)(hD:¬D=0)(hD1:(D==1)=true)(hl:(L%D !=0)=false)(hn:0<D)(hw:(W%2==0)=true)(hp:psiT L*(W-1)<=512):Calls Tryz.prog 55 #[.agg #[.int .i64 L,.int .i64 W,.int .i64 D]] w λe w'=>e=.returned (.int .i64 0)/\RowKit.Below w.heap.size w w':=by
 have hD2:(D !=1)=false:=by rw[bne,hD1];rfl
 have hps:=bg h1 h2;have HP:=Lib.hid (λw=>call114 h1 h2 w);generalize psiT L=s at *;obtain⟨hs1,hs2⟩:=hps;have hm0:0<=s*(W-1):=Int.mul_nonneg (by omega) (by omega);have hm1:s*(W-1)<=300*23:=Int.mul_le_mul hs2 (by omega) (by omega) (by omega);have q1:IntKind.i64.wrap (W-1)=W-1:=IntWalk.i64_in _ (by omega);have q2:IntKind.i64.wrap (s*(W-1))=s*(W-1):=IntWalk.i64_in _ (by omega);have hd:decide (0<D)=true:=decide_eq_true (by omega);go_enter Tryz.func55,Tryz.ntmps55;go_wp2
 go_region_with (go_at_call 114;refine(HP.out _).mono ?_;rintro e w2 ⟨rfl,hb2⟩;have S2:=SpecAt.box (w:=w) (w1:=w2) ⟨hb2.os,hb2.tape,hb2.output,hb2.size,hb2.block⟩;have f1:=S2.c1)
 all_goals
  go_wp2;go_ret;exact⟨rfl,⟨S2.below.os,S2.below.tape,S2.below.output,S2.below.size,S2.below.block⟩⟩
theorem Ds(L W D:Int)(w:World)(h1:1<=L)(h2:L<=120)(h3:2<=W)(h4:W<=24)(h5:-120<=D)(h6:D<=120)(hf:fundB D=true)(hD:¬D=0)(hD1:(D==1)=false)(hl:(L%D !=0)=false)(hn:0<D)(hw:(W%2==0)=true)(hp:psiT L*(W-1)<=512):Calls Tryz.prog 55 #[.agg #[.int .i64 L,.int .i64 W,.int .i64 D]] w λe w'=>e=.returned (.int .i64 0)/\RowKit.Below w.heap.size w w':=by
 have hi:intEq D 1=false:=by
  cases hq:intEq D 1
  .rfl
  .rw[bX.1 hq]at hD1;cases hD1
 have HC:=Lib.hid (λw=>call113 h5 h6 w);rw[hf,hi]at HC;clear hf hi;have hD2:(D !=1)=true:=by rw[bne,hD1];rfl
 have hps:=bg h1 h2;have HP:=Lib.hid (λw=>call114 h1 h2 w);generalize psiT L=s at *;obtain⟨hs1,hs2⟩:=hps;have hm0:0<=s*(W-1):=Int.mul_nonneg (by omega) (by omega);have hm1:s*(W-1)<=300*23:=Int.mul_le_mul hs2 (by omega) (by omega) (by omega);have q1:IntKind.i64.wrap (W-1)=W-1:=IntWalk.i64_in _ (by omega);have q2:IntKind.i64.wrap (s*(W-1))=s*(W-1):=IntWalk.i64_in _ (by omega);have hd:decide (0<D)=true:=decide_eq_true (by omega);go_enter Tryz.func55,Tryz.ntmps55;go_wp2_with fail;refine(HC.out _).mono ?_;rintro e w1 ⟨rfl,hb⟩;have S1:=SpecAt.box hb;clear hb;have e0:=S1.c0;have e1:=S1.c1;have e2:=S1.c2;go_wp2
 go_region_with (go_at_call 114;refine(HP.out _).mono ?_;rintro e w2 ⟨rfl,hb2⟩;have S2:=S1.later (w2:=w2) ⟨hb2.os,hb2.tape,hb2.output,hb2.size,hb2.block⟩;have f1:=S2.c1)
 all_goals
  go_wp2;go_ret;exact⟨rfl,⟨S2.below.os,S2.below.tape,S2.below.output,S2.below.size,S2.below.block⟩⟩
end Go.Ex.KV
namespace Go.Ex.KV
open Go Go.RowKit Go.Proofs
theorem sA(L W D:Int)(w:World):Calls Tryz.prog 55 #[.agg #[.int .i64 L,.int .i64 W,.int .i64 D]] w λe w'=>e=.returned (.int .i64 (Fa L W D))/\RowKit.Below w.heap.size w w':=by
 by_cases h:L<1\/120<L\/W<2\/24<W\/D < -120\/120<D
 .rw[show Fa L W D=2 by unfold Fa;rw[if_pos h]];exact Df L W D w h
 have h1:1<=L:=by omega
 have h2:L<=120:=by omega
 have h3:2<=W:=by omega
 have h4:W<=24:=by omega
 have h5:-120<=D:=by omega
 have h6:D<=120:=by omega
 cases hf:fundB D with
 |false=>rw[show Fa L W D=15 by unfold Fa;rw[if_neg h,if_pos hf]];exact Dg L W D w h1 h2 h3 h4 h5 h6 hf
 |true=>
  have hD:¬D=0:=λe=>by subst e;rw[mf]at hf;cases hf
  have hf':¬fundB D=false:=by rw[hf];simp
  have hev:(W%2==0) = !(W%2==1):=by rw[Bool.eq_iff_iff];simp;omega
  by_cases hl:L%D≠0
  .rw[show Fa L W D=14 by unfold Fa;rw[if_neg h,if_neg hf',if_pos hl]];have hl2:(L%D !=0)=true:=by simpa using hl
   cases ho:D==1 with
   |true=>exact Dh L W D w h1 h2 h3 h4 h5 h6 hD ho hl2
   |false=>exact Di L W D w h1 h2 h3 h4 h5 h6 hf hD ho hl2
  have hl':(L%D !=0)=false:=by simpa using hl
  by_cases hp:decide (D<0)≠(W%2==1)
  .rw[show Fa L W D=16 by unfold Fa;rw[if_neg h,if_neg hf',if_neg hl,if_pos hp]];by_cases hn:D<0
   .have he:(W%2==0)=true:=by rw[hev];cases hq:W%2==1<;>simp[hn,hq]at hp⊢
    have ho:(D==1)=false:=beq_false_of_ne (by omega);exact Dj L W D w h1 h2 h3 h4 h5 h6 hf hD ho hl' (by omega) he
   .have he:(W%2==0)=false:=by rw[hev];cases hq:W%2==1<;>simp[hn,hq]at hp⊢
    cases ho:D==1 with
    |true=>exact Dk L W D w h1 h2 h3 h4 h5 h6 hD ho hl' (by omega) he
    |false=>exact Dl L W D w h1 h2 h3 h4 h5 h6 hf hD ho hl' (by omega) he
  by_cases hs:512<psiT L*(W-1)
  .rw[show Fa L W D=7 by unfold Fa;rw[if_neg h,if_neg hf',if_neg hl,if_neg hp,if_pos hs]];by_cases hn:D<0
   .have he:(W%2==0)=false:=by rw[hev];cases hq:W%2==1<;>simp[hn,hq]at hp⊢
    have ho:(D==1)=false:=beq_false_of_ne (by omega);exact Dm L W D w h1 h2 h3 h4 h5 h6 hf hD ho hl' (by omega) he hs
   .have he:(W%2==0)=true:=by rw[hev];cases hq:W%2==1<;>simp[hn,hq]at hp⊢
    cases ho:D==1 with
    |true=>exact Dn L W D w h1 h2 h3 h4 h5 h6 hD ho hl' (by omega) he hs
    |false=>exact Dp L W D w h1 h2 h3 h4 h5 h6 hf hD ho hl' (by omega) he hs
  .rw[show Fa L W D=0 by unfold Fa;rw[if_neg h,if_neg hf',if_neg hl,if_neg hp,if_neg hs]];by_cases hn:D<0
   .have he:(W%2==0)=false:=by rw[hev];cases hq:W%2==1<;>simp[hn,hq]at hp⊢
    have ho:(D==1)=false:=beq_false_of_ne (by omega);exact Dq L W D w h1 h2 h3 h4 h5 h6 hf hD ho hl' (by omega) he (by omega)
   .have he:(W%2==0)=true:=by rw[hev];cases hq:W%2==1<;>simp[hn,hq]at hp⊢
    cases ho:D==1 with
    |true=>exact Dr L W D w h1 h2 h3 h4 h5 h6 hD ho hl' (by omega) he (by omega)
    |false=>exact Ds L W D w h1 h2 h3 h4 h5 h6 hf hD ho hl' (by omega) he (by omega)
end Go.Ex.KV
namespace Go.Ex.KV
open Go Go.RowKit Go.Proofs
theorem sB{L W D:Int}(h:Fa L W D=0):2<=W/\W<=24:=by
 unfold Fa at h;split at h
 .cases h
 .omega
def Gl(L W D:Int):Int:=if Fa L W D=0 then(W-1)*psiT L else 0
def Gm(L W D:Int):Bool:=decide (Fa L W D=0/\48<(W-1)*psiT L)
theorem Dt(L W D:Int)(w:World):Calls Tryz.prog 24 #[.agg #[.int .i64 L,.int .i64 W,.int .i64 D]] w λe w'=>e=.returned (.tuple #[.int .i64 (Gl L W D),.int .i64 (Fa L W D)])/\RowKit.Below w.heap.size w w':=by
 by_cases hc:Fa L W D=0
 .obtain⟨h1,h2,_⟩:=sw hc;obtain⟨h3,h4⟩:=sB hc;rw[show Gl L W D=(W-1)*psiT L by unfold Gl;rw[if_pos hc]];have HR:=Lib.hid (λw=>sA L W D w);have HC:=Lib.hid hc;rw[hc];clear hc;obtain⟨hs1,hs2⟩:=bg h1 h2;have HP:=Lib.hid (λw=>call56 h1 h2 w);generalize psiT L=s at *;have hm0:0<=(W-1)*s:=Int.mul_nonneg (by omega) (by omega);have hm1:(W-1)*s<=23*300:=Int.mul_le_mul (by omega) hs2 (by omega) (by omega);have q1:IntKind.i64.wrap (W-1)=W-1:=IntWalk.i64_in _ (by omega);have q2:IntKind.i64.wrap ((W-1)*s)=(W-1)*s:=IntWalk.i64_in _ (by omega);go_enter Tryz.func24,Tryz.ntmps24;go_wp2_with fail;refine(HR.out _).mono ?_;rintro e w1 ⟨rfl,hb⟩;rw[HC.out];have S1:=SpecAt.box hb;clear hb;have e0:=S1.c0;have e1:=S1.c1;go_wp2
  go_region_with (go_at_call 56;refine(HP.out _).mono ?_;rintro e w2 ⟨rfl,hb2⟩;have S2:=S1.later (w2:=w2) ⟨hb2.os,hb2.tape,hb2.output,hb2.size,hb2.block⟩;have f1:=S2.c1;have f0:=S2.c0)
  all_goals
   go_wp2
   go_ret2
   exact⟨rfl,⟨S2.below.os,S2.below.tape,S2.below.output,S2.below.size,S2.below.block⟩⟩
 .rw[show Gl L W D=0 by unfold Gl;rw[if_neg hc]];have HR:=Lib.hid (λw=>sA L W D w);generalize Fa L W D=z at *;have hn:(z==0)=false:=beq_false_of_ne hc;have hn':(z !=0)=true:=by rw[bne,hn];rfl
  clear hc;go_enter Tryz.func24,Tryz.ntmps24;go_wp2_with fail;refine(HR.out _).mono ?_;rintro e w1 ⟨rfl,hb⟩;have S1:=SpecAt.box hb;clear hb;go_wp2
  go_ret2
  exact⟨rfl,S1.below⟩
theorem sC(L W D:Int)(w:World):Calls Tryz.prog 7 #[.agg #[.int .i64 L,.int .i64 W,.int .i64 D]] w λe w'=>e=.returned (.bool (Gm L W D))/\RowKit.Below w.heap.size w w':=by
 have HC:=Lib.hid (λw=>Dt L W D w);by_cases hc:Fa L W D=0
 .by_cases hm:48<(W-1)*psiT L
  .have hn:Gl L W D=(W-1)*psiT L:=by unfold Gl;rw[if_pos hc]
   have hl:Gm L W D=true:=decide_eq_true ⟨hc,hm⟩;rw[hl];rw[hn,hc]at HC;generalize (W-1)*psiT L=m at *;clear hl hn hc;go_enter Tryz.func7,Tryz.ntmps7;go_wp2_with fail;refine(HC.out _).mono ?_;rintro e w1 ⟨rfl,hb⟩;have S1:=SpecAt.box hb;clear hb;have hd:decide (48<m)=true:=decide_eq_true (by omega);go_wp2;go_ret;exact⟨by first|rfl|simp[hd],S1.below⟩
  .have hn:Gl L W D=(W-1)*psiT L:=by unfold Gl;rw[if_pos hc]
   have hl:Gm L W D=false:=decide_eq_false λh=>hm h.2
   rw[hl];rw[hn,hc]at HC;generalize (W-1)*psiT L=m at *;clear hl hn hc;go_enter Tryz.func7,Tryz.ntmps7;go_wp2_with fail;refine(HC.out _).mono ?_;rintro e w1 ⟨rfl,hb⟩;have S1:=SpecAt.box hb;clear hb;have hd:decide (48<m)=false:=decide_eq_false (by omega);go_wp2;go_ret;exact⟨by first|rfl|simp[hd],S1.below⟩
 .have hl:Gm L W D=false:=decide_eq_false λh=>hc h.1
  rw[hl];generalize Fa L W D=z at *;generalize Gl L W D=m at *;clear hl;have hn:(z==0)=false:=beq_false_of_ne hc;have hn':(z !=0)=true:=by rw[bne,hn];rfl
  clear hc;go_enter Tryz.func7,Tryz.ntmps7;go_wp2_with fail;refine(HC.out _).mono ?_;rintro e w1 ⟨rfl,hb⟩;have S1:=SpecAt.box hb;clear hb;go_wp2;go_ret;exact⟨rfl,S1.below⟩
end Go.Ex.KV
namespace Go.Ex.KV
open Go Go.RowKit Go.Proofs
theorem sz(w:World)(o:Obj):(w.alloc o).heap.size=w.heap.size+1:=by unfold World.alloc;simp
theorem Du(L W D:Int)(w:World)(hc:Fa L W D≠0):Calls Tryz.prog 116 #[.agg #[.int .i64 L,.int .i64 W,.int .i64 D]] w λe w'=>e=.returned (.tuple #[.pointer none,.int .i64 (Fa L W D)])/\RowKit.Below w.heap.size w w':=by
 have HR:=Lib.hid (λw=>De L W D w);generalize Fa L W D=z at *;have hn:(z==0)=false:=beq_false_of_ne hc;have hn':(z !=0)=true:=by rw[bne,hn];rfl
 clear hc;go_enter Tryz.func116,Tryz.ntmps116;go_wp2_with fail;refine(HR.out _).mono ?_;rintro e w1 ⟨rfl,hb⟩;have S1:=SpecAt.box hb;clear hb;go_wp2
 go_ret2
 exact⟨rfl,S1.below⟩
theorem Dv(L W D:Int)(w:World)(hc:Fa L W D≠0):Calls Tryz.prog 57 #[.agg #[.int .i64 L,.int .i64 W,.int .i64 D]] w λe w'=>e=.returned (.tuple #[.agg #[.int .i64 0,.int .i64 0,.slice none 0 0],.int .i64 (Fa L W D)])/\RowKit.Below w.heap.size w w':=by
 have HR:=Lib.hid (λw=>Du L W D w hc);generalize Fa L W D=z at *;have hn:(z==0)=false:=beq_false_of_ne hc;have hn':(z !=0)=true:=by rw[bne,hn];rfl
 clear hc;go_enter Tryz.func57,Tryz.ntmps57;go_wp2_with fail;refine(HR.out _).mono ?_;rintro e w1 ⟨rfl,hb⟩;have hB:RowKit.Below w.heap.size w w1:=(((RowKit.Below.refl _ _).alloc (Nat.le_refl _) _).alloc (by rw[sz];omega) _).trans (hb.mono (by rw[sz,sz];omega));obtain⟨hcl,hfl⟩:=me hb;have y0:w1.frozen? ⟨w.heap.size+1,0,none⟩=false:=by rw[hfl _ _ (by rw[sz,sz];omega)];exact World.frozen?_alloc_at _ _ _ _ (by rw[sz])
 have y1:w1.frozen? ⟨w.heap.size+1,1,none⟩=false:=by rw[hfl _ _ (by rw[sz,sz];omega)];exact World.frozen?_alloc_at _ _ _ _ (by rw[sz])
 have y2:w1.frozen? ⟨w.heap.size+1,2,none⟩=false:=by rw[hfl _ _ (by rw[sz,sz];omega)];exact World.frozen?_alloc_at _ _ _ _ (by rw[sz])
 have z0:w1.cell? ⟨w.heap.size+1,0,none⟩=some (.int .i64 0):=by rw[hcl _ _ (by rw[sz,sz];omega)];exact(World.cell?_alloc_at _ _ _ _ (by rw[sz])).trans rfl
 have z1:w1.cell? ⟨w.heap.size+1,1,none⟩=some (.int .i64 0):=by rw[hcl _ _ (by rw[sz,sz];omega)];exact(World.cell?_alloc_at _ _ _ _ (by rw[sz])).trans rfl
 have z2:w1.cell? ⟨w.heap.size+1,2,none⟩=some (.slice none 0 0):=by rw[hcl _ _ (by rw[sz,sz];omega)];exact(World.cell?_alloc_at _ _ _ _ (by rw[sz])).trans rfl
 clear hcl hfl hb;go_wp2;refine bodyPost_ret (by simp[results,Tryz.results57,go_sem,z0,z1,z2];try rfl) rfl ?_;exact⟨rfl,((hB.setCell (by simp) _).setCell (by simp) _).setCell (by simp) _⟩
theorem Dx(L W D:Int)(w:World)(hc:Fa L W D≠0):Calls Tryz.prog 25 #[.agg #[.int .i64 L,.int .i64 W,.int .i64 D]] w λe w'=>e=.returned (.tuple #[.pointer none,.int .i64 (Fa L W D)])/\RowKit.Below w.heap.size w w':=by
 have HR:=Lib.hid (λw=>Dv L W D w hc);generalize Fa L W D=z at *;have hn:(z==0)=false:=beq_false_of_ne hc;have hn':(z !=0)=true:=by rw[bne,hn];rfl
 clear hc;go_enter Tryz.func25,Tryz.ntmps25;go_wp2_with fail;refine(HR.out _).mono ?_;rintro e w1 ⟨rfl,hb⟩;have S1:=SpecAt.box hb;clear hb;go_wp2
 go_ret2
 exact⟨rfl,S1.below.alloc S1.below.size _⟩
theorem Dy(L W D:Int)(w:World)(hc:Fa L W D≠0):Calls Tryz.prog 8 #[.agg #[.int .i64 L,.int .i64 W,.int .i64 D]] w λe w'=>e=.returned (.tuple #[.pointer none,.int .i64 (Fa L W D)])/\RowKit.Below w.heap.size w w':=by
 have HR:=Lib.hid (λw=>Dx L W D w hc);generalize Fa L W D=z at *;have hn:(z==0)=false:=beq_false_of_ne hc;have hn':(z !=0)=true:=by rw[bne,hn];rfl
 clear hc;go_enter Tryz.func8,Tryz.ntmps8;go_wp2_with fail;refine(HR.out _).mono ?_;rintro e w1 ⟨rfl,hb⟩;have S1:=SpecAt.box hb;clear hb;go_wp2
 go_ret2
 exact⟨rfl,S1.below⟩
end Go.Ex.KV
namespace Go.Ex.KV
open Go Go.RowKit Go.Proofs Go.Ex.KD
def zs:List Int:=[0,1,56,2,57,49,28,3,61,58,42,50,38,29,17,4,62,47,59,36,45,43,51,22,53,39,33,30,24,18,12,5,63,55,48,27,60,41,37,16,46,35,44,21,52,32,23,11,54,26,40,15,34,20,31,10,25,14,19,9,13,8,7,6]
theorem sD:tabL=zs.map λz=>AVal.int .u8 z:=rfl
theorem sE:Tryz.prog.globalNamed "math/bits.deBruijn64tab" = some 0:=by kernel_rfl
theorem Dz{r:R}(h:Jw r=true):∃H,r=.ok (.bool true) H:=by
 unfold Jw at h;split at h
 .subst h;exact⟨_,rfl⟩
 .cases h
theorem sF{T:T8 CFn}(hT:∀ω:Nat->Value,(∀i,(ω i).oneCell'=true)->TabOk Tryz.prog ω T){f:Nat}{k:List AVal->AH->R}(hA:Adq T (key f) k){args:List AVal}{vals:List Value}(hargs:∀(ρ:Rho) (ω:Nat->Value),All2 (VR ρ ω) args vals)(h:Jw (k args H0)=true)(w:World)(ht:Lib.TabIs Tryz.prog w "math/bits.deBruijn64tab" .u8 zs) :
 Calls Tryz.prog f vals.toArray w λe w'=>e=.returned (.bool true)/\Go.RowKit.Below w.heap.size w w':=by
 let ω:Nat->Value:=λ_=>.bool true
 have hω:∀i,(ω i).oneCell'=true:=λ_=>rfl
 have hrow:∃T fz,w.heap[0]?=some (.cells (zs.map λz=>Value.int .u8 z).toArray T fz):=by
  unfold Lib.TabIs World.var? at ht;rw[sE,Option.bind_some]at ht;split at ht
  .rename_i cs T fz hq;simp only[Option.some.injEq]at ht;subst ht;exact⟨T,fz,hq⟩
  .cases ht
 obtain⟨T',fz,hrow⟩:=hrow
 obtain⟨ρ,hr,hg⟩:=vC (P:=Tryz.prog) (ω:=ω) (cells:=tabL) (q:=q2) (ms:=[0,1]) hrow (by rw[sD];simp) (λi x hx=>by
  rw[sD,List.getElem?_map,Option.map_eq_some_iff]at hx;obtain⟨z,hz,rfl⟩:=hx;refine⟨.u8,z,rfl,?_⟩
  simp only[List.getElem?_toArray,List.getElem?_map,hz,Option.map_some]) rfl (by simp)
 have hH:(⟨q2,.node (.ro tabL.length 1 tabL .nil) nil8⟩:AH)=H0:=rfl;rw[hH]at hr;obtain⟨H',hcall⟩:=Dz h;obtain⟨n,hn⟩:=hA _ _ _ _ hcall;have hglob:GlobOk Tryz.prog ρ:=λg hgl=>hg g (by rw[ma]at hgl;exact hgl)
 have hcf:=kg hω follows (hT ω hω) (hn n (Nat.le_refl _)) hr hglob (hargs ρ ω);refine(hcf.calls λk=>room_wide k).mono λe w' he=>?_
 cases e with
 |panicked x=>exact he.elim
 |outgrown=>exact he.elim
 |returned v=>
  obtain⟨ρ',hv,hs⟩:=he;cases hv with
  |bool t=>
   refine⟨rfl,⟨hs.os,hs.tape,hs.output,hs.size,hs.kept λid=>?_⟩⟩
   have hget:H0.m.get .dead id=if id=key 0 then AObj.ro 64 1 tabL .nil else AObj.dead:=by
    cases id with
    |e=>rfl
    |s d p=>rw[if_neg (by intro h;cases h)];show T8.get AObj.dead (.s d p) (.node _ nil8)=_;simp only[T8.get,dv,get_nil]
   rw[hget];by_cases h:id=key 0
   .rw[if_pos h];rfl
   .rw[if_neg h];rfl
def Mj(L W D:Int):Bool:=Fc.any λs=>intEq (.ofNat s.1) L&&(intEq (.ofNat s.2.1) W&&intEq s.2.2 D)
def Pf(L W D:Int):Bool:=fundB D&&(intEq (L%D) 0&&(boolEq (decide (D<0)) (intEq (W%2) 1)))
def Ko(f:Nat->Bool)(n:Nat):Bool:=Nat.rec true (λk ih=>f k&&ih) n
theorem mg{f:Nat->Bool}{n:Nat}(h:Ko f n=true){k:Nat}(hk:k<n):f k=true:=by
 induction n with
 |zero=>omega
 |succ n ih=>
  have h:(f n&&Ko f n)=true:=h;rw[Bool.and_eq_true]at h;by_cases e:k=n
  .subst e;exact h.1
  .exact ih h.2 (by omega)
def R6:Bool:=Ko (λl=>Ko (λk=>bif Nat.ble ((k+1)*(psiT (l+1)).toNat) 48 then Ko (λd=>bif Pf (l+1) (k+2) ((d:Int)-120)then Mj (l+1) (k+2) ((d:Int)-120)else true) 241 else true) 23) 120
theorem DA:R6=true:=by kernel_rfl
theorem DB{L W D:Int}(h:Fa L W D=0):Pf L W D=true:=by
 unfold Fa at h;split at h
 .cases h
 .split at h
  .cases h
  .split at h
   .cases h
   .split at h
    .cases h
    .rename_i h1 h2 h3 h4
     have h2:fundB D=true:=by cases hf:fundB D with
      |true=>rfl
      |false=>exact absurd hf h2
     have h3:L%D=0:=Classical.byContradiction h3;have h4:decide (D<0)=(W%2==1):=Classical.byContradiction h4;unfold Pf;rw[h2,h3,h4,bY (W%2) 1];cases (W%2==1)<;>rfl
theorem DC{L W D:Int}(h:Fa L W D=0)(hm:(W-1)*psiT L<=48):Mj L W D=true:=by
 obtain⟨h1,h2,h3,h4,_⟩:=sw h;obtain⟨h5,h6⟩:=sB h;have hp:=bg h1 h2;have hb:=DB h;have s:=DA;unfold R6 at s;have s1:=mg s (k:=(L-1).toNat) (by omega);have s2:=mg s1 (k:=(W-2).toNat) (by omega);have eL:(((L-1).toNat:Int)+1)=L:=by omega
 have eW:(((W-2).toNat:Int)+2)=W:=by omega
 have e1:Nat.ble (((W-2).toNat+1)*(psiT (((L-1).toNat:Int)+1)).toNat) 48=true:=by
  rw[eL];refine Nat.ble_eq_true_of_le ?_;have:((((W-2).toNat+1)*(psiT L).toNat:Nat):Int)=(W-1)*psiT L:=by rw[Int.natCast_mul,Int.toNat_of_nonneg (by omega)];congr 1;omega
  omega
 simp only[e1,cond]at s2;have s3:=mg s2 (k:=(D+120).toNat) (by omega);have eD:(((D+120).toNat:Int)-120)=D:=by omega
 simp only[eL,eW,eD,hb] at s3;exact s3
theorem DD{L W D:Int}(h:Mj L W D=true):∃s∈Fc,L=.ofNat s.1/\W=.ofNat s.2.1/\D=s.2.2:=by unfold Mj at h;rw[List.any_eq_true]at h;obtain⟨s,hs,h⟩:=h;simp only[Bool.and_eq_true,bX]at h;exact⟨s,hs,h.1.symm,h.2.1.symm,h.2.2.symm⟩
theorem DE(s:Nat×Nat×Int)(ρ:Rho)(ω:Nat->Value):All2 (VR ρ ω) [P5 s] [.agg #[.int .i64 (.ofNat s.1),.int .i64 (.ofNat s.2.1),.int .i64 s.2.2]]:=by
 refine .cons ?_ .nil
 exact VR.agg (ρ:=ρ) (ω:=ω) _ [.int .i64 (.ofNat s.1),.int .i64 (.ofNat s.2.1),.int .i64 s.2.2] (.cons (.int _ _) (.cons (.int _ _) (.cons (.int _ _) .nil))) (λv hv=>by
  simp only[List.mem_cons,List.not_mem_nil,or_false]at hv
  rcases hv with rfl|rfl|rfl<;>rfl)
theorem sG{w:World}{o:Obj}{s:String}{k:IntKind}{l:List Int}(h:Lib.TabIs Tryz.prog w s k l):Lib.TabIs Tryz.prog (w.alloc o) s k l:=by
 unfold Lib.TabIs World.var? at h⊢;cases hg:Tryz.prog.globalNamed s with
 |none=>rw[hg]at h;exact absurd h (by simp)
 |some g=>
  rw[hg]at h;simp only[Option.bind_some]at h⊢;cases hq:w.heap[g]? with
  |none=>rw[hq]at h;simp at h
  |some x=>
   have:(w.alloc o).heap[g]?=some x:=by rw[RowKit.Below.heap_alloc w o g (Array.getElem?_eq_some_iff.1 hq).1];exact hq
   rw[this];rw[hq]at h;exact h
end Go.Ex.KV
namespace Go.Ex.KP
open Go Go.Ex Go.Ex.KD Go.Proofs
theorem a1{ω:Nat->Value}(hω:∀i,(ω i).oneCell'=true):TabOk Tryz.prog ω (KY6.FN κ1):=bD hω (mh hω)
theorem Ef:OL fB (lB.map gB):=dP (z:=_) (DI (Wq (by show(lB.drop 78).all tB=true;kernel_rfl)))
theorem Eg{ω:Nat->Value}(hω:∀i,(ω i).oneCell'=true):OrcOk Tryz.prog ω 26 (natK nB):=dt (f:=26) (T:=KY6.FN κ1) (k:=fB) hω KV.follows (a1 hω) (KY6.OQ (κ:=κ1)).a KV.hq Ef
theorem Eh:OL fF (lF.map gF):=dP (z:=_) (DL (Wr (Ws (by show(lF.drop 73).all tF=true;kernel_rfl))))
theorem Ei{ω:Nat->Value}(hω:∀i,(ω i).oneCell'=true):OrcOk Tryz.prog ω 82 (natK nF):=dt (f:=82) (T:=KY6.FN κ1) (k:=fF) hω KV.follows (a1 hω) (KY6.Pb (κ:=κ1)).a KV.hq Eh
theorem Ej{ω:Nat->Value}(hω:∀i,(ω i).oneCell'=true):KOk ω κ2:={mh hω with o26:=Eg hω,o82:=Ei hω,o136:=D_ hω,o6:=Ee hω,o7:=Ed hω}
theorem a2{ω:Nat->Value}(hω:∀i,(ω i).oneCell'=true):TabOk Tryz.prog ω (KY6.FN κ2):=bD hω (Ej hω)
end Go.Ex.KP
