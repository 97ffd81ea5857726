/- Soundness of the executor against the model, a part of it. Conditions: stated at each theorem. -/
import Derived.Test.YthddjdainglhcaaGreatDoorExSoundA
import Derived.Test.YthddjdainglhcaaGreatDoorExCore
namespace Go.Ex
open Go
variable {P : Program} {ρ : Pth → Option BI} {ω : Nat → Value} {H : AH} {w : World}

/-! ### blocks at keys that were set aside -/
theorem sub_extAt {id : Pth} (h : ρ id = none) (i : BI) : Sub ρ (ext ρ id i) := fun q j hq => by
  rw [ext_ne _ _ (fun e => by subst e; rw [h] at hq; cases hq)]; exact hq

theorem Step.addAt {ρ0 : Pth → Option BI} {H0 : AH} {w0 : World} (hs : Step P ρ0 ω H0 w0 ρ H w) {id : Pth} (hid : ρ id = none) (hlt : id.toNat < H.next.toNat) (hge : H0.next.toNat ≤ id.toNat) {o : AObj} {ob : Obj} {i : BI} (hb : i.blk = w.heap.size)
    (hobj : ObjOk P (ext ρ id i) ω (w.alloc ob) id o) : Step P ρ0 ω H0 w0 (ext ρ id i) (H.set id o) (w.alloc ob) where
  sub := hs.sub.trans (sub_extAt hid i)
  hr := {
    ok := fun q => by
      by_cases he : id = q
      · subst he; rw [get_set_same]; exact hobj
      · rw [get_set_ne he]
        by_cases hlv : live (H.m.get .dead q) = true
        · obtain ⟨j, hj, hl⟩ := (hs.hr.ok q).lt hlv
          refine ObjOk.mono (sub_extAt hid i) (fun i' hi' => ?_) (hs.hr.ok q)
          rw [hj] at hi'; cases hi'
          show (w.heap.push ob)[j.blk]? = _
          rw [Array.getElem?_push, if_neg (by omega)]
        · rw [dead_of_not_live hlv]; trivial
    inj := fun a b ia ib hoa hlb hab ha hb' => by
      by_cases e1 : id = a
      · subst e1
        rw [get_set_ne hab] at hlb
        rw [ext_same] at ha; cases ha
        rw [ext_ne _ _ (Ne.symm hab)] at hb'
        obtain ⟨j, hj, hl⟩ := (hs.hr.ok b).lt hlb
        rw [hj] at hb'; cases hb'
        omega
      · rw [get_set_ne e1] at hoa
        rw [ext_ne _ _ (Ne.symm e1)] at ha
        by_cases e2 : id = b
        · subst e2
          rw [ext_same] at hb'; cases hb'
          obtain ⟨j, hj, hl⟩ := (hs.hr.ok a).lt (live_of_owned hoa)
          rw [hj] at ha; cases ha
          omega
        · rw [get_set_ne e2] at hlb
          rw [ext_ne _ _ (Ne.symm e2)] at hb'
          exact hs.hr.inj a b ia ib hoa hlb hab ha hb'
    fresh := fun q j hj => by
      show q.toNat < H.next.toNat
      by_cases e : q = id
      · subst e; exact hlt
      · rw [ext_ne _ _ e] at hj
        exact hs.hr.fresh q j hj }
  os := hs.os
  tape := hs.tape
  output := hs.output
  size := Nat.le_trans hs.size (by simp)
  keep := fun b hb' hn => by
    rw [← hs.keep b hb' hn]
    show (w.heap.push ob)[b]? = _
    have := hs.size
    rw [Array.getElem?_push, if_neg (by omega)]
  img := fun b hb' hi' => by
    obtain ⟨a, ia, ho, ha, rfl⟩ := hi'
    have := hs.size
    by_cases e : id = a
    · subst e
      rw [ext_same] at ha; cases ha
      omega
    · rw [get_set_ne e] at ho
      rw [ext_ne _ _ (Ne.symm e)] at ha
      exact hs.img _ hb' ⟨a, ia, ho, ha, rfl⟩
  imgo := fun b hb' hi' => by
    obtain ⟨a, ia, ho, ha, rfl⟩ := hi'
    have := hs.size
    by_cases e : id = a
    · subst e
      rw [ext_same] at ha; cases ha
      omega
    · rw [get_set_ne e] at ho
      rw [ext_ne _ _ (Ne.symm e)] at ha
      exact hs.imgo _ hb' ⟨a, ia, ho, ha, rfl⟩
  next := hs.next
  dom := fun q j hj hl => by
    by_cases e : q = id
    · subst e; omega
    · rw [ext_ne _ _ e] at hj
      exact hs.dom q j hj hl

/-- what an operation that makes a block comes to, wherever the block's key is -/
def MkOk (P : Program) (ρ : Pth → Option BI) (ω : Nat → Value) (w : World) (mk : Pth → Option (AObj × AVal)) (s : Sem Value) : Prop :=
  ∃ ob lim v', s.run P w = .ok v' (w.alloc ob) ∧ ∀ id, ρ id = none → ∀ o v, mk id = some (o, v) → owned o = true ∧ VR (ext ρ id ⟨w.heap.size, 0, lim⟩) ω v v' ∧ ObjOk P (ext ρ id ⟨w.heap.size, 0, lim⟩) ω (w.alloc ob) id o

theorem arr_mk {cells : Array Value} {T : TypeId} {esz n lim : Nat} {d : List AVal} {els : T8 (List AVal)} (ha : ArrOk ρ ω cells ⟨w.heap.size, 0, lim⟩ esz n d els) {id : Pth} (hid : ρ id = none) :
    ObjOk P (ext ρ id ⟨w.heap.size, 0, lim⟩) ω (w.alloc (.cells cells T)) id (.arr esz n d els) := by
  refine ⟨_, cells, T, ext_same _ _ _, ?_, ha.mono (sub_extAt hid _)⟩
  show (w.heap.push _)[w.heap.size]? = _
  simp

theorem box_mk (hω : ∀ i, (ω i).oneCell' = true) {x : AVal} {x' : Value} (hx : VR ρ ω x x') (h : x.cells ≠ []) {T : TypeId} : MkOk P ρ ω w (boxV x) (do pure (.pointer (some (← newVar T x'))) : Sem Value) := by
  obtain ⟨hcs, hone⟩ := cells_sound hω hx h
  have hlen := hcs.length
  have ha : ArrOk ρ ω x'.cells ⟨w.heap.size, 0, 1 * lenN x.cells⟩ (lenN x.cells) 1 x.cells .nil := {
    lim := Nat.le_refl _
    size := by
      show 0 + 1 * lenN x.cells ≤ x'.cells.size
      rw [lenN_eq]; simp only [Array.length_toList] at hlen; omega
    els := fun j hj => by
      have : j = 0 := by omega
      subst this
      rw [elem_nil]
      refine ⟨x'.cells.toList, hcs, by rw [lenN_eq]; exact hlen.symm, hone, fun k u hk => ?_⟩
      simpa using hk }
  refine ⟨.cells x'.cells T, 1 * lenN x.cells, .pointer (some ⟨w.heap.size, 0, none⟩), by simp [newVar, newRow], fun id hid o v hov => ?_⟩
  unfold boxV at hov
  cases hc : x.cells with
  | nil => exact absurd hc h
  | cons c0 cs0 =>
    rw [hc] at hov ha
    simp only [Option.some.injEq, Prod.mk.injEq] at hov
    obtain ⟨rfl, rfl⟩ := hov
    exact ⟨rfl, .ptr id 0 ⟨w.heap.size, 0, _⟩ (ext_same _ _ _), arr_mk ha hid⟩

variable {N : Nat} {S : List (Nat × Pth)} {G : Ctx} {L : List AVal} {e : T8 AVal} {a : Act}

theorem bsl_mk (hω : ∀ i, (ω i).oneCell' = true) (hg : GlobOk P ρ) (he : EnvOk ρ ω S e a.tmps) (hc : CtxOk ρ ω G L e a.tmps) {t el : TypeId} {n s : Nat} {z : AVal} (ht : tElem P t = some el) (hs : tSize P el = some s)
    (hz : tZero P el = some z) (hsmall : Nat.blt (n * s) 65536 = true) (hpos : Nat.blt 0 s = true) (hzl : lenIs z.cells s = true) {ps : Array (Nat × Operand)} {parts : List (Nat × COpd)} (hp : cPartsS P N S G n ps.toList = some parts)
    {els : T8 (List AVal)} (hb : bslV L e s .nil parts = some els) : MkOk P ρ ω w (fun id => mkBlock L e (.bsl s n z.cells parts) id) (Instr.buildSlice t n (ps.map fun (i, x) => (i, a.eval x))) := by
  obtain ⟨it, zv, hi, hzv, hof⟩ := tZero_some hz
  obtain ⟨ie, hie, hsz⟩ := tSize_some hs
  rw [hi] at hie; cases hie
  obtain ⟨hzc, hzo⟩ := ofValue_cells (ρ := ρ) (ω := ω) hof
  have hpos := idx_lt hpos
  have hsmall := idx_lt hsmall
  obtain ⟨cells', hf, ha⟩ := bslfill_sound (b := w.heap.size) hω hg he hc ps.toList parts .nil els _ hp (zeros_arr (n := n) (b := w.heap.size) hzc hzo (lenIs_iff hzl)) (by simp) hb
  have hf' : Instr.fill (fun i => some (i * s, s)) ((Array.range (n * s)).map (zv.cells[· % zv.cells.size]!)) (ps.map fun (i, x) => (i, a.eval x)).toList = some cells' := by
    rw [← hf]; congr 1; simp
  refine ⟨.cells cells' el, n * s, .slice (some ⟨w.heap.size, 0, none⟩) n n, ?_, fun id hid o v hov => ?_⟩
  · by_cases hn : n = 0
    · subst hn
      have hcells : cells' = #[] := by
        have hps : parts = [] ∧ ps.toList = [] := by
          cases hq : ps.toList with
          | nil => rw [hq] at hp; simp only [cPartsS, Option.some.injEq] at hp; exact ⟨hp.symm, rfl⟩
          | cons q r =>
            rw [hq] at hp
            obtain ⟨i, x⟩ := q
            simp only [cPartsS] at hp
            cases hi0 : Nat.blt i 0 with
            | false => rw [hi0] at hp; cases hp
            | true => have := idx_lt hi0; omega
        rw [hps.2] at hf
        simp only [List.map_nil, Instr.fill, Option.some.injEq] at hf
        rw [← hf]
        simp
      have hps0 : ps = #[] := by
        apply Array.ext'
        cases hq : ps.toList with
        | nil => rfl
        | cons q r =>
          rw [hq] at hp
          obtain ⟨i, x⟩ := q
          simp only [cPartsS] at hp
          cases hi0 : Nat.blt i 0 with
          | false => rw [hi0] at hp; cases hp
          | true => have := idx_lt hi0; omega
      subst hps0
      subst hcells
      simp [Instr.buildSlice, run_underlying (elem_of ht), sizeOf, typeInfo, hi, newRow, Instr.fill, range0]
    · subst hsz
      exact run_buildSlice w t el n _ cells' it zv (elem_of ht) hi hzv (by omega) (by
        intro h0
        rcases Nat.mul_eq_zero.1 h0 with h1 | h1
        · exact hn h1
        · omega) hf'
  · simp only [mkBlock, hb, Option.some.injEq, Prod.mk.injEq] at hov
    obtain ⟨rfl, rfl⟩ := hov
    exact ⟨rfl, .sl id 0 n n ⟨w.heap.size, 0, n * s⟩ (ext_same _ _ _), arr_mk ha hid⟩

theorem mksl_mk {t el : TypeId} {s b : Nat} {z l c : AVal} {l' c' : Value} (ht : tElem P t = some el) (hs : tSize P el = some s) (hby : tBytes P el = some b) (hz : tZero P el = some z)
    (hpos : Nat.blt 0 s = true) (hzl : lenIs z.cells s = true) (hl : VR ρ ω l l') (hc : VR ρ ω c c') {n m : Nat} (hln : natOf l = some n) (hcm : natOf c = some m) (hnm : n ≤ m) (hsm : small m b = true) :
    MkOk P ρ ω w (fun id => some (.arr s m z.cells .nil, .sl id 0 n m)) (Instr.makeSlice t l' c') := by
  obtain ⟨it, zv, hi, hzv, hof⟩ := tZero_some hz
  obtain ⟨ie, hie, hsz⟩ := tSize_some hs
  rw [hi] at hie; cases hie
  obtain ⟨hzc, hzo⟩ := ofValue_cells (ρ := ρ) (ω := ω) hof
  have hpos := idx_lt hpos
  obtain ⟨h1, h2, h3⟩ := small_of hsm
  obtain ⟨k1, rfl⟩ := natOf_sound hl hln
  obtain ⟨k2, rfl⟩ := natOf_sound hc hcm
  have hbytes : it.bytes = b := by
    unfold tBytes at hby
    rw [hi] at hby
    simpa using hby
  have wl : IntKind.i64.wrap (n : Int) = n := IntWalk.i64_in _ (by omega)
  have wc : IntKind.i64.wrap (m : Int) = m := IntWalk.i64_in _ (by omega)
  have hmb : (b : Int) * (m : Int) < 2 ^ 40 := by
    have : ((m * b : Nat) : Int) < ((2 ^ 40 : Nat) : Int) := by exact_mod_cast h1
    rw [Int.natCast_mul, Int.mul_comm] at this
    simpa using this
  refine ⟨.cells ((Array.range (m * s)).map (zv.cells[· % zv.cells.size]!)) el, m * s, .slice (some ⟨w.heap.size, 0, none⟩) n m, ?_, fun id hid o v hov => ?_⟩
  · unfold Instr.makeSlice
    simp only [asInt, asIntOf, Sem.run_bind, Sem.run_pure, Result.andThen_ok, run_underlying (elem_of ht), typeInfo, run_program, hi, wl, wc, hbytes]
    rw [if_neg (by simp; omega)]
    simp only [Sem.run_bind, run_askRoom, Result.andThen_ok, sizeOf, typeInfo, run_program, hi, Sem.run_pure, hsz, Int.toNat_natCast]
    by_cases h0 : m * s = 0
    · have hm0 : m = 0 := by
        rcases Nat.mul_eq_zero.1 h0 with h | h
        · exact h
        · omega
      subst hm0
      simp [newRow, range0]
    · rw [if_neg h0]
      simp [zeroValue, typeInfo, hi, hzv, newRow]
  · simp only [Option.some.injEq, Prod.mk.injEq] at hov
    obtain ⟨rfl, rfl⟩ := hov
    exact ⟨rfl, .sl id 0 n m ⟨w.heap.size, 0, m * s⟩ (ext_same _ _ _), arr_mk (zeros_arr (n := m) (b := w.heap.size) hzc hzo (lenIs_iff hzl)) hid⟩

theorem mkmap_mk {t : TypeId} : MkOk P ρ ω w (fun id => some (.mp [], .map id)) (Instr.makeMap t none) := by
  refine ⟨.map #[] 0, 0, .map (some w.heap.size), rfl, fun id hid o v hov => ?_⟩
  simp only [Option.some.injEq, Prod.mk.injEq] at hov
  obtain ⟨rfl, rfl⟩ := hov
  refine ⟨rfl, .map id ⟨w.heap.size, 0, 0⟩ (ext_same _ _ _), ⟨w.heap.size, 0, 0⟩, #[], 0, ext_same _ _ _, ?_, .nil⟩
  show (w.heap.push _)[w.heap.size]? = _
  simp

/-- an operation of a region that makes a block -/
theorem mkBlock_mk (hω : ∀ i, (ω i).oneCell' = true) (hg : GlobOk P ρ) (he : EnvOk ρ ω S e a.tmps) (hc : CtxOk ρ ω G L e a.tmps) {o : Oper} {cop : COp} (hcop : cOp P N S G o.op = some cop) (hk : kindOf o.op = 2)
    {id0 : Pth} {o0 : AObj} {v0 : AVal} (h0 : mkBlock L e cop id0 = some (o0, v0)) : ∃ s : Sem Value, execOp a.eval o = (do pure (.value (← s))) ∧ MkOk P ρ ω w (fun id => mkBlock L e cop id) s := by
  have opd : ∀ {x : Operand} {c : COpd}, cOpd P N S G x = some c → VR ρ ω (c.ev L e) (a.eval x) := fun h => cOpd_sound hg he hc h
  obtain ⟨dst, op, type, pos, after, guard⟩ := o
  simp only at hcop hk
  have hbox : ∀ {x : AVal}, (boxV x id0).isSome = true → x.cells ≠ [] := by
    intro x hx hn
    unfold boxV at hx
    rw [hn] at hx
    cases hx
  cases op with
  | alloc t =>
    simp only [cOp, Option.map_eq_some_iff] at hcop
    obtain ⟨z, hz, rfl⟩ := hcop
    obtain ⟨it, zv, hi, hzv, hof⟩ := tZero_some hz
    refine ⟨_, rfl, ?_⟩
    have hb := box_mk (P := P) (w := w) (T := t) hω (ofValue_sound (ρ := ρ) (ω := ω) hof) (hbox (by simp only [mkBlock] at h0; rw [show (COpd.k z).ev L e = z from rfl] at h0; rw [h0]; rfl))
    obtain ⟨ob, lim, v', h1, h2⟩ := hb
    refine ⟨ob, lim, v', ?_, h2⟩
    rw [← h1]
    unfold Instr.alloc
    have hzr : (zeroValue t).run P w = .ok zv w := by simp [zeroValue, typeInfo, hi, hzv]
    rw [Sem.run_bind, hzr, Result.andThen_ok]
  | box t x =>
    simp only [cOp, Option.map_eq_some_iff] at hcop
    obtain ⟨c, h3, rfl⟩ := hcop
    exact ⟨_, rfl, box_mk hω (opd h3) (hbox (by simp only [mkBlock] at h0; rw [h0]; rfl))⟩
  | buildSlice t n ps =>
    simp only [cOp, Option.bind_eq_some_iff] at hcop
    obtain ⟨el, h1, s, h2, z, h3, hcop⟩ := hcop
    cases hb : Nat.blt (n * s) 65536 && (Nat.blt 0 s && lenIs z.cells s) with
    | false => rw [hb] at hcop; cases hcop
    | true =>
      rw [hb] at hcop
      simp only [Bool.and_eq_true] at hb
      simp only [cond, Option.map_eq_some_iff] at hcop
      obtain ⟨l, hl, rfl⟩ := hcop
      simp only [mkBlock] at h0
      cases hq : bslV L e s .nil l with
      | none => rw [hq] at h0; cases h0
      | some els => exact ⟨_, rfl, bsl_mk hω hg he hc h1 h2 h3 hb.1 hb.2.1 hb.2.2 hl hq⟩
  | makeMap t r =>
    cases r with
    | some x => simp only [cOp] at hcop; cases hcop
    | none =>
      simp only [cOp, Option.some.injEq] at hcop
      subst hcop
      exact ⟨_, rfl, mkmap_mk⟩
  | makeSlice t l c =>
    simp only [cOp, Option.bind_eq_some_iff] at hcop
    obtain ⟨el, h1, s, h2, b, h3, z, h4, hcop⟩ := hcop
    cases hb : Nat.blt 0 s && lenIs z.cells s with
    | false => rw [hb] at hcop; cases hcop
    | true =>
      rw [hb] at hcop
      simp only [Bool.and_eq_true] at hb
      simp only [Bool.not_true, cond, Option.bind_eq_some_iff, Option.map_eq_some_iff] at hcop
      obtain ⟨cl, h5, cc, h6, rfl⟩ := hcop
      simp only [mkBlock] at h0
      cases hl : natOf (cl.ev L e) with
      | none => rw [hl] at h0; cases h0
      | some n =>
        cases hm : natOf (cc.ev L e) with
        | none => rw [hl, hm] at h0; cases h0
        | some m =>
          rw [hl, hm] at h0
          simp only at h0
          cases hq : Nat.ble n m && small m b with
          | false => rw [hq] at h0; cases h0
          | true =>
            rw [Bool.and_eq_true] at hq
            refine ⟨_, rfl, ?_⟩
            have := mksl_mk (P := P) (w := w) h1 h2 h3 h4 hb.1 hb.2 (opd h5) (opd h6) hl hm (Nat.le_of_ble_eq_true hq.1) hq.2
            have he2 : (fun id => mkBlock L e (.mksl s b z.cells cl cc) id) = fun id => some (.arr s m z.cells .nil, .sl id 0 n m) := by
              funext id
              simp only [mkBlock, hl, hm, hq, Bool.and_self, cond]
            rw [he2]
            exact this
  | call c =>
    exfalso
    simp only [kindOf] at hk
    split at hk <;> first | (cases hk; done) | (split at hk <;> cases hk)
  | _ => simp only [kindOf] at hk; cases hk
end Go.Ex

namespace Go.Ex
open Go
variable {P : Program} {ρ ρ' : Pth → Option BI} {ω : Nat → Value} {H : AH} {w w' : World}

/-! ### a heap, and some more blocks over it -/
structure Over (K : Nat → Prop) (ID : Nat → Pth) (OB : Nat → AObj) (H Ĥ : AH) : Prop where
  next : Ĥ.next = H.next
  at_ : ∀ k, K k → Ĥ.m.get .dead (ID k) = OB k
  off : ∀ id, (∀ k, K k → ID k ≠ id) → Ĥ.m.get .dead id = H.m.get .dead id

theorem Over.exists_list {ID : Nat → Pth} {OB : Nat → AObj} (ks : List Nat) (hinj : ∀ k ∈ ks, ∀ k' ∈ ks, ID k = ID k' → k = k') (H : AH) : ∃ Ĥ, Over (fun k => k ∈ ks) ID OB H Ĥ := by
  induction ks with
  | nil => exact ⟨H, rfl, fun _ h => (by cases h), fun _ _ => rfl⟩
  | cons k ks ih =>
    obtain ⟨Ĥ, h1, h2, h3⟩ := ih fun a ha b hb => hinj a (by simp [ha]) b (by simp [hb])
    refine ⟨Ĥ.set (ID k) (OB k), h1, fun j hj => ?_, fun id hid => ?_⟩
    · by_cases e : ID k = ID j
      · have := hinj k (by simp) j hj e
        subst this
        exact get_set_same _ _
      · rw [get_set_ne e]
        rcases List.mem_cons.1 hj with rfl | hj
        · exact absurd rfl e
        · exact h2 j hj
    · rw [get_set_ne (hid k (by simp))]
      exact h3 id fun j hj => hid j (by simp [hj])

theorem Over.exists_lt {ID : Nat → Pth} {OB : Nat → AObj} {n : Nat} {K : Nat → Prop} (hK : ∀ k, K k → k < n) (hinj : ∀ k, K k → ∀ k', K k' → ID k = ID k' → k = k') (H : AH) : ∃ Ĥ, Over K ID OB H Ĥ := by
  classical
  obtain ⟨Ĥ, h1, h2, h3⟩ := Over.exists_list (ID := ID) (OB := OB) ((List.range n).filter fun k => decide (K k)) (by
    intro k hk k' hk'
    simp only [List.mem_filter, decide_eq_true_eq] at hk hk'
    exact hinj k hk.2 k' hk'.2) H
  have hm : ∀ k, k ∈ (List.range n).filter (fun k => decide (K k)) ↔ K k := fun k => by
    simp only [List.mem_filter, List.mem_range, decide_eq_true_eq]
    exact ⟨fun h => h.2, fun h => ⟨hK k h, h⟩⟩
  exact ⟨Ĥ, h1, fun k hk => h2 k ((hm k).2 hk), fun id hid => h3 id fun k hk => hid k ((hm k).1 hk)⟩

/-- fewer blocks -/
theorem HR.shrink {H' : AH} (hr : HR P ρ ω H w) (hn : H'.next = H.next) (hg : ∀ id, H'.m.get .dead id = H.m.get .dead id ∨ H'.m.get .dead id = .dead) : HR P ρ ω H' w where
  ok := fun id => by
    rcases hg id with h | h
    · rw [h]; exact hr.ok id
    · rw [h]; trivial
  inj := fun a b ia ib ha hb hab h1 h2 => by
    have ha' : owned (H.m.get .dead a) = true := by
      rcases hg a with h | h
      · rwa [h] at ha
      · rw [h] at ha; cases ha
    have hb' : live (H.m.get .dead b) = true := by
      rcases hg b with h | h
      · rwa [h] at hb
      · rw [h] at hb; cases hb
    exact hr.inj a b ia ib ha' hb' hab h1 h2
  fresh := fun id i h => by rw [hn]; exact hr.fresh id i h

theorem Over.hr {K : Nat → Prop} {ID : Nat → Pth} {OB : Nat → AObj} {Ĥ : AH} (ho : Over K ID OB H Ĥ) (hd : ∀ k, K k → H.m.get .dead (ID k) = .dead) (hr : HR P ρ ω Ĥ w) : HR P ρ ω H w := by
  refine hr.shrink ho.next.symm fun id => ?_
  by_cases h : ∃ k, K k ∧ ID k = id
  · obtain ⟨k, hk, rfl⟩ := h
    exact .inr (hd k hk)
  · exact .inl (ho.off id fun k hk e => h ⟨k, hk, e⟩).symm

/-- what is done below such blocks is done with them over it -/
theorem Step.under {K : Nat → Prop} {ID : Nat → Pth} {OB : Nat → AObj} {HS HS' Ĥ : AH} (ho : Over K ID OB HS Ĥ) (hown : ∀ k, K k → owned (OB k) = true) (hd : ∀ k, K k → HS.m.get .dead (ID k) = .dead) (hr : HR P ρ ω Ĥ w)
    (hs : Step P ρ ω HS w ρ' HS' w') : (∀ k, K k → HS'.m.get .dead (ID k) = .dead) ∧ ∀ Ĥ', Over K ID OB HS' Ĥ' → Step P ρ ω Ĥ w ρ' Ĥ' w' := by
  -- a live block below is live above
  have up : ∀ id, live (HS.m.get .dead id) = true → Ĥ.m.get .dead id = HS.m.get .dead id := fun id hl => by
    refine ho.off id fun k hk e => ?_
    subst e
    rw [hd k hk] at hl; cases hl
  have kblk : ∀ k, K k → ∃ i, ρ (ID k) = some i ∧ i.blk < w.heap.size := fun k hk => (hr.ok (ID k)).lt (by rw [ho.at_ k hk]; exact live_of_owned (hown k hk))
  have nimg : ∀ k, K k → ∀ i, ρ (ID k) = some i → ¬ Img ρ HS i.blk := by
    rintro k hk i hi ⟨q, j, hl, hj, hb⟩
    have hne : ID k ≠ q := fun e => by subst e; rw [hd k hk] at hl; cases hl
    exact hr.inj (ID k) q i j (by rw [ho.at_ k hk]; exact hown k hk) (by rw [up q hl]; exact hl) hne hi hj hb.symm
  have nimg' : ∀ k, K k → ∀ i, ρ (ID k) = some i → ¬ Img ρ' HS' i.blk := fun k hk i hi h => by
    obtain ⟨j, hj, hlt⟩ := kblk k hk
    rw [hi] at hj; cases hj
    exact nimg k hk i hi (hs.img _ hlt h)
  have dead' : ∀ k, K k → HS'.m.get .dead (ID k) = .dead := fun k hk => by
    refine dead_of_not_live fun hl => ?_
    obtain ⟨i, hi, hlt⟩ := kblk k hk
    exact nimg' k hk i hi ⟨ID k, i, hl, hs.sub _ _ hi, rfl⟩
  refine ⟨dead', fun Ĥ' ho' => ?_⟩
  have rho_k : ∀ k, K k → ρ' (ID k) = ρ (ID k) := fun k hk => by
    obtain ⟨i, hi, _⟩ := kblk k hk
    rw [hi]; exact hs.sub _ _ hi
  have cases_id : ∀ id, (∃ k, K k ∧ ID k = id) ∨ (Ĥ'.m.get .dead id = HS'.m.get .dead id) := fun id => by
    by_cases h : ∃ k, K k ∧ ID k = id
    · exact .inl h
    · exact .inr (ho'.off id fun k hk e => h ⟨k, hk, e⟩)
  have img_of : ∀ id i, live (HS'.m.get .dead id) = true → ρ' id = some i → Img ρ' HS' i.blk := fun id i h1 h2 => ⟨id, i, h1, h2, rfl⟩
  exact {
    sub := hs.sub
    hr := {
      ok := fun id => by
        rcases cases_id id with ⟨k, hk, rfl⟩ | h
        · rw [ho'.at_ k hk]
          have h1 := hr.ok (ID k)
          rw [ho.at_ k hk] at h1
          refine ObjOk.mono hs.sub (fun i hi => ?_) h1
          obtain ⟨j, hj, hlt⟩ := kblk k hk
          rw [hi] at hj; cases hj
          exact hs.keep _ hlt fun h => nimg k hk i hi h.img
        · rw [h]; exact hs.hr.ok id
      inj := fun a b ia ib hoa hlb hab ha hb => by
        rcases cases_id a with ⟨k, hk, rfl⟩ | h1
        · rcases cases_id b with ⟨k2, hk2, rfl⟩ | h2
          · rw [rho_k k hk] at ha
            rw [rho_k k2 hk2] at hb
            exact hr.inj (ID k) (ID k2) ia ib (by rw [ho.at_ k hk]; exact hown k hk) (by rw [ho.at_ k2 hk2]; exact live_of_owned (hown k2 hk2)) hab ha hb
          · rw [h2] at hlb
            rw [rho_k k hk] at ha
            intro e
            exact nimg' k hk ia ha (e ▸ img_of b ib hlb hb)
        · rcases cases_id b with ⟨k2, hk2, rfl⟩ | h2
          · rw [h1] at hoa
            rw [rho_k k2 hk2] at hb
            intro e
            exact nimg' k2 hk2 ib hb (e ▸ img_of a ia (live_of_owned hoa) ha)
          · rw [h1] at hoa
            rw [h2] at hlb
            exact hs.hr.inj a b ia ib hoa hlb hab ha hb
      fresh := fun id i h => by rw [ho'.next]; exact hs.hr.fresh id i h }
    os := hs.os
    tape := hs.tape
    output := hs.output
    size := hs.size
    keep := fun b hb hn => hs.keep b hb fun ⟨id, i, h1, h2, h3⟩ => hn ⟨id, i, by rw [up id (live_of_owned h1)]; exact h1, h2, h3⟩
    img := fun b hb ⟨id, i, h1, h2, h3⟩ => by
      rcases cases_id id with ⟨k, hk, rfl⟩ | h
      · exact ⟨ID k, i, by rw [ho.at_ k hk]; exact live_of_owned (hown k hk), by rw [← rho_k k hk]; exact h2, h3⟩
      · rw [h] at h1
        obtain ⟨q, j, g1, g2, g3⟩ := hs.img b hb ⟨id, i, h1, h2, h3⟩
        exact ⟨q, j, by rw [up q g1]; exact g1, g2, g3⟩
    imgo := fun b hb ⟨id, i, h1, h2, h3⟩ => by
      rcases cases_id id with ⟨k, hk, rfl⟩ | h
      · exact ⟨ID k, i, by rw [ho.at_ k hk]; exact hown k hk, by rw [← rho_k k hk]; exact h2, h3⟩
      · rw [h] at h1
        obtain ⟨q, j, g1, g2, g3⟩ := hs.imgo b hb ⟨id, i, h1, h2, h3⟩
        exact ⟨q, j, by rw [up q (live_of_owned g1)]; exact g1, g2, g3⟩
    next := by rw [ho.next, ho'.next]; exact hs.next
    dom := fun id i h hl => by rw [ho.next] at hl; exact hs.dom id i h hl }

/-- the same heap by another tree -/
theorem Step.congr {H0 H1 : AH} {ρ0 : Pth → Option BI} {w0 : World} (hs : Step P ρ0 ω H0 w0 ρ H w) (hn : H1.next = H.next) (hg : ∀ id, H1.m.get .dead id = H.m.get .dead id) : Step P ρ0 ω H0 w0 ρ H1 w :=
  ⟨hs.sub, hs.hr.shrink hn fun id => .inl (hg id), hs.os, hs.tape, hs.output, hs.size, hs.keep, fun b hb ⟨id, i, h1, h2, h3⟩ => hs.img b hb ⟨id, i, by rw [← hg id]; exact h1, h2, h3⟩, fun b hb ⟨id, i, h1, h2, h3⟩ => hs.imgo b hb ⟨id, i, by rw [← hg id]; exact h1, h2, h3⟩, by rw [hn]; exact hs.next, hs.dom⟩
end Go.Ex

namespace Go.Ex
open Go

/-! ### the run in the order of the text, state by state -/
structure DS where
  e : T8 AVal
  H : AH
  ids : Pth
  s : Nat
  pend : List Pend
  hs : List AH
  rds : List Rd

def DS.run (call : Caller) (l : List (CO × Dw)) (σ : DS) : Out := runD call l σ.e σ.H σ.ids σ.s σ.pend σ.hs σ.rds

/-- what one operation does to the state; v: its value, ob: the block that it makes -/
inductive Fact (call : Caller) (o : CO) (d : Dw) (σ : DS) (v : AVal) (ob : AObj) : DS → Prop where
  | skip3 (hw : wants [] σ.e o.guard = .skip) (hk : d.kind = 3) (hv : v = undefV) :
      Fact call o d σ v ob ⟨setE σ.e o.dst v, absorb σ.s σ.pend σ.H, σ.ids, σ.s + 1, keepP σ.s σ.pend, absorb σ.s σ.pend σ.H :: σ.hs, σ.rds⟩
  | skip (hw : wants [] σ.e o.guard = .skip) (hk : d.kind ≠ 3) (hv : v = undefV) : Fact call o d σ v ob ⟨setE σ.e o.dst v, σ.H, σ.ids, σ.s, σ.pend, σ.hs, σ.rds⟩
  | pure (hw : wants [] σ.e o.guard = .go) (hk : d.kind = 0) (hv : pureV o.op [] σ.e ⟨.e, .nil⟩ = v) (hb : v ≠ .bad) : Fact call o d σ v ob ⟨setE σ.e o.dst v, σ.H, σ.ids, σ.s, σ.pend, σ.hs, σ.rds⟩
  | read (hw : wants [] σ.e o.guard = .go) (hk : d.kind = 1) (hv : pureV o.op [] σ.e σ.H = v) (hb : v ≠ .bad) :
      Fact call o d σ v ob ⟨setE σ.e o.dst v, σ.H, σ.ids, σ.s, σ.pend, σ.hs, bif Nat.beq d.lo d.hi then σ.rds else ⟨d.lo, d.hi, fixRd σ.e o.op, v⟩ :: σ.rds⟩
  | make (hw : wants [] σ.e o.guard = .go) (hk : d.kind = 2) (hv : mkBlock [] σ.e o.op σ.ids = some (ob, v)) :
      Fact call o d σ v ob ⟨setE σ.e o.dst v, σ.H, σ.ids.succ, σ.s, ⟨d.hi, σ.ids, ob⟩ :: σ.pend, σ.hs, σ.rds⟩
  | act (hw : wants [] σ.e o.guard = .go) (hk : d.kind = 3) {H' : AH} (hv : doOp call o.op [] σ.e (absorb σ.s σ.pend σ.H) = .ok v H') :
      Fact call o d σ v ob ⟨setE σ.e o.dst v, H', σ.ids, σ.s + 1, keepP σ.s σ.pend, H' :: σ.hs, σ.rds⟩

theorem runD_step {call : Caller} {o : CO} {d : Dw} {l : List (CO × Dw)} {σ : DS} (hk : d.kind ≤ 3) (h : DS.run call ((o, d) :: l) σ ≠ .none) :
    ∃ v ob σ', Fact call o d σ v ob σ' ∧ DS.run call ((o, d) :: l) σ = DS.run call l σ' := by
  obtain ⟨e, H, ids, s, pend, hs, rds⟩ := σ
  simp only [DS.run, runD] at h ⊢
  cases hw : wants [] e o.guard with
  | no => rw [hw] at h; exact absurd rfl h
  | skip =>
    rw [hw] at h
    simp only
    cases h3 : Nat.beq d.kind 3 with
    | true => exact ⟨undefV, .dead, _, .skip3 hw (Nat.eq_of_beq_eq_true h3) rfl, rfl⟩
    | false => exact ⟨undefV, .dead, _, .skip hw (fun e => by rw [e] at h3; cases h3) rfl, rfl⟩
  | go =>
    rw [hw] at h
    simp only at h ⊢
    obtain ⟨kind, lo, hi⟩ := d
    simp only at h hk ⊢
    match kind, hk with
    | 0, _ =>
      simp only at h ⊢
      cases hv : notBad (pureV o.op [] e ⟨.e, .nil⟩) H with
      | no => rw [hv] at h; exact absurd rfl h
      | ok v H1 =>
        obtain ⟨h1, h2, h3⟩ := notBad_ok hv
        exact ⟨v, .dead, _, .pure hw rfl h1 h2, rfl⟩
    | 1, _ =>
      simp only at h ⊢
      cases hv : notBad (pureV o.op [] e H) H with
      | no => rw [hv] at h; exact absurd rfl h
      | ok v H1 =>
        obtain ⟨h1, h2, h3⟩ := notBad_ok hv
        exact ⟨v, .dead, _, .read hw rfl h1 h2, rfl⟩
    | 2, _ =>
      simp only at h ⊢
      cases hv : mkBlock [] e o.op ids with
      | none => rw [hv] at h; exact absurd rfl h
      | some p =>
        obtain ⟨ob, v⟩ := p
        exact ⟨v, ob, _, .make hw rfl hv, rfl⟩
    | 3, _ =>
      simp only at h ⊢
      cases hv : doOp call o.op [] e (absorb s pend H) with
      | no => rw [hv] at h; exact absurd rfl h
      | ok v H1 => exact ⟨v, .dead, _, .act hw rfl hv, rfl⟩

theorem runD_seq {call : Caller} : ∀ (l : List (CO × Dw)) (σ0 : DS), (∀ x ∈ l, x.2.kind ≤ 3) → DS.run call l σ0 ≠ .none →
    ∃ (σ : Nat → DS) (V : Nat → AVal) (OB : Nat → AObj), σ 0 = σ0 ∧ (∀ i o d, l[i]? = some (o, d) → Fact call o d (σ i) (V i) (OB i) (σ (i + 1))) ∧
      checkRds (σ l.length).hs (σ l.length).s (σ l.length).rds = true ∧ DS.run call l σ0 = .norm (σ l.length).e (absorbAll (σ l.length).pend (σ l.length).H) := by
  intro l
  induction l with
  | nil =>
    intro σ0 _ h
    refine ⟨fun _ => σ0, fun _ => .bad, fun _ => .dead, rfl, fun i o d h => (by cases h), ?_⟩
    unfold DS.run runD at h ⊢
    simp only
    cases hc : checkRds σ0.hs σ0.s σ0.rds with
    | false => rw [hc] at h; exact absurd rfl h
    | true => exact ⟨rfl, rfl⟩
  | cons x l ih =>
    intro σ0 hk h
    obtain ⟨o, d⟩ := x
    obtain ⟨v, ob, σ1, hf, hr⟩ := runD_step (hk (o, d) (by simp)) h
    rw [hr] at h
    obtain ⟨σ, V, OB, h1, h2, h3, h4⟩ := ih σ1 (fun x hx => hk x (by simp [hx])) h
    refine ⟨fun i => match i with | 0 => σ0 | i + 1 => σ i, fun i => match i with | 0 => v | i + 1 => V i, fun i => match i with | 0 => ob | i + 1 => OB i, rfl, fun i o' d' hi => ?_, h3, hr.trans h4⟩
    cases i with
    | zero =>
      simp only [List.getElem?_cons_zero, Option.some.injEq, Prod.mk.injEq] at hi
      obtain ⟨rfl, rfl⟩ := hi
      simp only
      rw [h1]
      exact hf
    | succ i => exact h2 i o' d' (by simpa using hi)

/-! ### absorbing -/
theorem absorb_get (s : Nat) (pend : List Pend) (H : AH) : (absorb s pend H).next = H.next ∧ ∀ id, (∃ p ∈ pend, p.hi = s ∧ p.id = id ∧ (absorb s pend H).m.get .dead id = p.obj) ∨
    ((∀ p ∈ pend, p.hi = s → p.id ≠ id) ∧ (absorb s pend H).m.get .dead id = H.m.get .dead id) := by
  induction pend generalizing H with
  | nil => exact ⟨rfl, fun id => .inr ⟨fun _ h => (by cases h), rfl⟩⟩
  | cons p pend ih =>
    unfold absorb
    cases hb : Nat.beq p.hi s with
    | false =>
      obtain ⟨h1, h2⟩ := ih H
      refine ⟨h1, fun id => ?_⟩
      have hne : p.hi ≠ s := fun e => by rw [e, Nat.beq_eq.mpr rfl] at hb; cases hb
      rcases h2 id with ⟨q, g1, g2⟩ | ⟨g1, g2⟩
      · exact .inl ⟨q, by simp [g1], g2⟩
      · refine .inr ⟨fun q hq hs => ?_, g2⟩
        rcases List.mem_cons.1 hq with rfl | hq
        · exact absurd hs hne
        · exact g1 q hq hs
    | true =>
      have heq := Nat.eq_of_beq_eq_true hb
      obtain ⟨h1, h2⟩ := ih (H.set p.id p.obj)
      refine ⟨h1, fun id => ?_⟩
      rcases h2 id with ⟨q, g1, g2⟩ | ⟨g1, g2⟩
      · exact .inl ⟨q, by simp [g1], g2⟩
      · by_cases e : p.id = id
        · subst e
          exact .inl ⟨p, by simp, heq, rfl, g2.trans (get_set_same _ _)⟩
        · refine .inr ⟨fun q hq hs => ?_, g2.trans (get_set_ne e _)⟩
          rcases List.mem_cons.1 hq with rfl | hq
          · exact e
          · exact g1 q hq hs
theorem absorbAll_get (pend : List Pend) (H : AH) : (absorbAll pend H).next = H.next ∧ ∀ id, (∃ p ∈ pend, p.id = id ∧ (absorbAll pend H).m.get .dead id = p.obj) ∨
    ((∀ p ∈ pend, p.id ≠ id) ∧ (absorbAll pend H).m.get .dead id = H.m.get .dead id) := by
  induction pend generalizing H with
  | nil => exact ⟨rfl, fun id => .inr ⟨fun _ h => (by cases h), rfl⟩⟩
  | cons p pend ih =>
    unfold absorbAll
    obtain ⟨h1, h2⟩ := ih (H.set p.id p.obj)
    refine ⟨h1, fun id => ?_⟩
    rcases h2 id with ⟨q, g1, g2⟩ | ⟨g1, g2⟩
    · exact .inl ⟨q, by simp [g1], g2⟩
    · by_cases e : p.id = id
      · subst e
        exact .inl ⟨p, by simp, rfl, g2.trans (get_set_same _ _)⟩
      · refine .inr ⟨fun q hq => ?_, g2.trans (get_set_ne e _)⟩
        rcases List.mem_cons.1 hq with rfl | hq
        · exact e
        · exact g1 q hq
theorem mem_keepP {s : Nat} {pend : List Pend} {p : Pend} : p ∈ keepP s pend ↔ p ∈ pend ∧ p.hi ≠ s := by
  induction pend with
  | nil => simp [keepP]
  | cons q pend ih =>
    unfold keepP
    cases hb : Nat.beq q.hi s with
    | true =>
      have := Nat.eq_of_beq_eq_true hb
      simp only [cond, ih, List.mem_cons]
      constructor
      · rintro ⟨h1, h2⟩; exact ⟨.inr h1, h2⟩
      · rintro ⟨rfl | h1, h2⟩
        · exact absurd this h2
        · exact ⟨h1, h2⟩
    | false =>
      have hne : q.hi ≠ s := fun e => by rw [e, Nat.beq_eq.mpr rfl] at hb; cases hb
      simp only [cond, List.mem_cons, ih]
      constructor
      · rintro (rfl | ⟨h1, h2⟩)
        · exact ⟨.inl rfl, hne⟩
        · exact ⟨.inr h1, h2⟩
      · rintro ⟨rfl | h1, h2⟩
        · exact .inl rfl
        · exact .inr ⟨h1, h2⟩

/-! ### reads -/
theorem checkRd_at {r : Rd} : ∀ {hs : List AH} {s : Nat}, checkRd r hs s = true → ∀ k H, hs[k]? = some H → k ≤ s → r.lo ≤ s - k → s - k ≤ r.hi → (pureV r.op [] .nil H).eqv r.val = true := by
  intro hs
  induction hs with
  | nil => intro s _ k H h; cases h
  | cons H0 hs ih =>
    intro s h k H hk hks h1 h2
    unfold checkRd at h
    rw [Bool.and_eq_true] at h
    cases k with
    | zero =>
      simp only [List.getElem?_cons_zero, Option.some.injEq] at hk
      subst hk
      have : (Nat.ble r.lo s && Nat.ble s r.hi) = true := by
        rw [Bool.and_eq_true, Nat.ble_eq, Nat.ble_eq]; exact ⟨by omega, by omega⟩
      rw [this] at h
      exact h.1
    | succ k =>
      simp only [List.getElem?_cons_succ] at hk
      have hp : Nat.pred s = s - 1 := rfl
      rw [hp] at h
      exact ih h.2 k H hk (by omega) (by omega) (by omega)
theorem checkRds_mem {hs : List AH} {s : Nat} {rds : List Rd} (h : checkRds hs s rds = true) : ∀ r ∈ rds, checkRd r hs s = true := by
  induction rds with
  | nil => intro r hr; cases hr
  | cons q rds ih =>
    intro r hr
    unfold checkRds at h
    rw [Bool.and_eq_true] at h
    rcases List.mem_cons.1 hr with rfl | hr
    · exact h.1
    · exact ih h.2 r hr

/-- equal values stand for the same -/
theorem eq1_eq {x y : AVal} (h : x.eq1 y = true) : x = y := by
  have ik : ∀ {a b : Int}, intEq a b = true → a = b := fun {a b} h => by rw [intEq_iff] at h; exact eq_of_beq h
  unfold AVal.eq1 at h
  split at h
  · rw [boolEq_iff] at h; rw [eq_of_beq h]
  · rw [Bool.and_eq_true] at h; rw [kindEq_iff.1 h.1, ik h.2]
  · rw [Bool.and_eq_true] at h; rw [pthEq_iff.1 h.1, Nat.eq_of_beq_eq_true h.2]
  · rfl
  · simp only [Bool.and_eq_true] at h; rw [pthEq_iff.1 h.1, Nat.eq_of_beq_eq_true h.2.1, Nat.eq_of_beq_eq_true h.2.2.1, Nat.eq_of_beq_eq_true h.2.2.2]
  · simp only [Bool.and_eq_true] at h; rw [pthEq_iff.1 h.1, Nat.eq_of_beq_eq_true h.2.1, Nat.eq_of_beq_eq_true h.2.2.1, Nat.eq_of_beq_eq_true h.2.2.2]
  · rfl
  · rfl
  · rfl
  · rw [pthEq_iff.1 h]
  · cases h
theorem eqL_eq {l r : List AVal} (h : eqL l r = true) : l = r := by
  induction l generalizing r with
  | nil => cases r with
    | nil => rfl
    | cons _ _ => cases h
  | cons a l ih => cases r with
    | nil => cases h
    | cons b r =>
      unfold eqL at h
      rw [Bool.and_eq_true] at h
      rw [eq1_eq h.1, ih h.2]
theorem eqv_eq {x y : AVal} (h : x.eqv y = true) : x = y := by
  unfold AVal.eqv at h
  split at h
  · rw [eqL_eq h]
  · exact eq1_eq h

/-- an operation that is found good without a heap is so with any -/
theorem pure_doOp {call : Caller} {cop : COp} {L : List AVal} {e : T8 AVal} {v : AVal} (h : pureV cop L e ⟨.e, .nil⟩ = v) (hv : v ≠ .bad) (H : AH) : doOp call cop L e H = .ok v H := by
  have nb : ∀ {x : AVal}, x = v → notBad x H = .ok v H := fun {x} hx => by
    subst hx
    unfold notBad
    cases x <;> first | rfl | exact absurd rfl hv
  have em : ∀ p, (T8.nil : T8 AObj).get .dead p = .dead := fun p => get_nil _ p
  cases cop with
  | load agg sz x =>
    exfalso
    simp only [pureV, loadV] at h
    cases hx : x.ev L e <;> rw [hx] at h <;> simp only [loadAt, em] at h <;> exact hv h.symm
  | lookup z ok m k =>
    exfalso
    simp only [pureV, lookupV] at h
    cases hx : m.ev L e <;> rw [hx] at h <;> simp only [em] at h <;> exact hv h.symm
  | _ => first
    | exact absurd h.symm hv
    | exact nb h
/-- a read -/
theorem read_doOp {call : Caller} {cop : COp} {e : T8 AVal} {H : AH} {v : AVal} (hc : (∃ a s x, cop = .load a s x) ∨ ∃ z ok m k, cop = .lookup z ok m k) (h : pureV (fixRd e cop) [] .nil H = v ∨ pureV cop [] e H = v) (hv : v ≠ .bad) : doOp call cop [] e H = .ok v H := by
  have nb : ∀ {x : AVal}, x = v → notBad x H = .ok v H := fun {x} hx => by
    subst hx
    unfold notBad
    cases x <;> first | rfl | exact absurd rfl hv
  rcases hc with ⟨a, s, x, rfl⟩ | ⟨z, ok, m, k, rfl⟩
  · rcases h with h | h <;> exact nb h
  · rcases h with h | h <;> exact nb h
end Go.Ex

namespace Go.Ex
open Go

/-! ### what is checked of a region that draws its order -/
structure WOk (ops : Array Oper) : Prop where
  chain : ∀ i j, i < j → j < ops.size → kdOf ops i = 3 → kdOf ops j = 3 → bitAt (Region.before ops) j i = true
  back : ∀ (i : Nat) (o : Oper), ops[i]? = some o → ∀ e ∈ o.after, Region.binds .any e = true → e.on < i
  looks : ∀ (i : Nat) (o : Oper), ops[i]? = some o → ∀ t ∈ opTmps ops o, ∀ (j : Nat) (oj : Oper), ops[j]? = some oj → j ≠ i → oj.dst = some t → bitAt (Region.before ops) i j = true ∨ bitAt (Region.before ops) j i = true
  one : ∀ (i : Nat) (o : Oper), ops[i]? = some o → ∀ t, o.dst = some t → ∀ (j : Nat) (oj : Oper), ops[j]? = some oj → j ≠ i → oj.dst ≠ some t
  ahead : ∀ i j, i < ops.size → j < ops.size → bitAt (Region.before ops) i j = true → j < i ∧ ∃ o, ops[i]? = some o ∧ ∃ e ∈ o.after, Region.binds .any e = true ∧ (e.on = j ∨ bitAt (Region.before ops) e.on j = true)
  takes : ∀ i k, i < ops.size → k < ops.size → kdOf ops i = 3 → kdOf ops k = 2 → hiOf ops (Region.before ops) k = chN (kdOf ops) i → bitAt (Region.before ops) i k = true
  place : ∀ i j, i < ops.size → j < ops.size → (kdOf ops i = 1 ∨ kdOf ops i = 2) → kdOf ops j = 3 →
    (chN (kdOf ops) j < loOf ops (Region.before ops) i → bitAt (Region.before ops) i j = true) ∧ (hiOf ops (Region.before ops) i ≤ chN (kdOf ops) j → bitAt (Region.before ops) j i = true)
  top : ∀ i, i < ops.size → (kdOf ops i = 1 ∨ kdOf ops i = 2) → loOf ops (Region.before ops) i ≤ chN (kdOf ops) ops.size ∧ hiOf ops (Region.before ops) i ≤ chN (kdOf ops) ops.size

theorem beq_true_iff {a b : Nat} : Nat.beq a b = true ↔ a = b := by rw [Nat.beq_eq]

theorem wok_of {ops : Array Oper} (h1 : dwOk ops (Region.before ops) = true) (h2 : dwOk2 ops (Region.before ops) = true) : WOk ops := by
  unfold dwOk at h1
  unfold dwOk2 at h2
  simp only [Bool.and_eq_true, List.all_eq_true, List.mem_range] at h1 h2
  obtain ⟨a1, a2⟩ := h1
  obtain ⟨⟨b1, b2⟩, b3⟩ := h2
  have sz : ∀ {i : Nat} {o : Oper}, ops[i]? = some o → i < ops.size := fun h => (Array.getElem?_eq_some_iff.1 h).1
  refine ⟨?_, ?_, ?_, ?_, ?_, ?_, ?_, ?_⟩
  · intro i j hij hj hi3 hj3
    have := a1 i (by omega) j hj
    simp only [Bool.or_eq_true, Bool.not_eq_true', Bool.and_eq_false_iff] at this
    rcases this with (h | h) | h
    · have := Nat.le_of_ble_eq_true h; omega
    · rcases h with h | h
      · exact absurd (beq_true_iff.2 hi3) (by unfold kdOf; rw [h]; simp)
      · exact absurd (beq_true_iff.2 hj3) (by unfold kdOf; rw [h]; simp)
    · exact h
  · intro i o ho e he hb
    have := a2 i (sz ho)
    rw [ho] at this
    simp only [Bool.and_eq_true, List.all_eq_true] at this
    have := this.1.1 e (by simpa using he)
    simp only [Bool.or_eq_true, Bool.not_eq_true'] at this
    rcases this with h | h
    · rw [hb] at h; cases h
    · exact Nat.le_of_ble_eq_true h
  · intro i o ho t ht j oj hoj hne hd
    have := a2 i (sz ho)
    rw [ho] at this
    simp only [Bool.and_eq_true, List.all_eq_true, List.mem_range] at this
    have := this.1.2 t ht j (sz hoj)
    simp only [Bool.or_eq_true, Bool.not_eq_true'] at this
    rcases this with (h | h) | h
    · exact absurd (beq_true_iff.1 h).symm hne
    · rw [hoj, Option.bind_some, hd] at h
      simp at h
    · exact h
  · intro i o ho t ht j oj hoj hne hd
    have := a2 i (sz ho)
    rw [ho] at this
    simp only [Bool.and_eq_true] at this
    have := this.2
    rw [ht] at this
    simp only [List.all_eq_true, List.mem_range] at this
    have := this j (sz hoj)
    simp only [Bool.or_eq_true, Bool.not_eq_true'] at this
    rcases this with h | h
    · exact absurd (beq_true_iff.1 h).symm hne
    · rw [hoj, Option.bind_some, hd] at h
      simp at h
  · intro i j hi hj hb
    have := b1 i hi j hj
    simp only [Bool.or_eq_true, Bool.not_eq_true', Bool.and_eq_true] at this
    rcases this with h | ⟨h1, h2⟩
    · rw [hb] at h; cases h
    · refine ⟨Nat.le_of_ble_eq_true h1, ?_⟩
      cases ho : ops[i]? with
      | none => rw [ho] at h2; cases h2
      | some o =>
        rw [ho] at h2
        simp only [List.any_eq_true, Bool.and_eq_true, Bool.or_eq_true] at h2
        obtain ⟨e, he, hbi, hor⟩ := h2
        exact ⟨o, rfl, e, by simpa using he, hbi, hor.imp (fun h => beq_true_iff.1 h) (fun h => h)⟩
  · intro i k hi hk hi3 hk2 hh
    have := b2 i hi
    rw [beq_true_iff.2 hi3] at this
    simp only [cond, List.all_eq_true, List.mem_range, Bool.or_eq_true, Bool.not_eq_true'] at this
    rcases this k hk with (h | h) | h
    · rw [beq_true_iff.2 hk2] at h; cases h
    · rw [beq_true_iff.2 hh] at h; cases h
    · exact h
  · intro i j hi hj hk hj3
    have := b3 i hi
    have hc : (Nat.beq (kdOf ops i) 1 || Nat.beq (kdOf ops i) 2) = true := by
      rw [Bool.or_eq_true]; exact hk.imp beq_true_iff.2 beq_true_iff.2
    rw [hc] at this
    simp only [cond, Bool.and_eq_true, List.all_eq_true, List.mem_range, Bool.or_eq_true, Bool.not_eq_true'] at this
    have := this.1 j hj
    rcases this with h | ⟨h1, h2⟩
    · rw [beq_true_iff.2 hj3] at h; cases h
    · refine ⟨fun hlt => ?_, fun hle => ?_⟩
      · rcases h1 with h | h
        · have : Nat.blt (chN (kdOf ops) j) (loOf ops (Region.before ops) i) = true := Nat.ble_eq_true_of_le hlt
          rw [this] at h; cases h
        · exact h
      · rcases h2 with h | h
        · have : Nat.ble (hiOf ops (Region.before ops) i) (chN (kdOf ops) j) = true := Nat.ble_eq_true_of_le hle
          rw [this] at h; cases h
        · exact h
  · intro i hi hk
    have := b3 i hi
    have hc : (Nat.beq (kdOf ops i) 1 || Nat.beq (kdOf ops i) 2) = true := by
      rw [Bool.or_eq_true]; exact hk.imp beq_true_iff.2 beq_true_iff.2
    rw [hc] at this
    simp only [cond, Bool.and_eq_true] at this
    exact ⟨Nat.le_of_ble_eq_true this.2.1, Nat.le_of_ble_eq_true this.2.2⟩

/-! ### counting -/
theorem chN_succ3 {kd : Nat → Nat} {i : Nat} (h : kd i = 3) : chN kd (i + 1) = chN kd i + 1 := by
  simp only [chN, beq_true_iff.2 h, cond]
theorem chN_succ {kd : Nat → Nat} {i : Nat} (h : kd i ≠ 3) : chN kd (i + 1) = chN kd i := by
  have : Nat.beq (kd i) 3 = false := by
    cases hb : Nat.beq (kd i) 3 with
    | false => rfl
    | true => exact absurd (beq_true_iff.1 hb) h
  simp only [chN, this, cond]
theorem chN_mono {kd : Nat → Nat} {i j : Nat} (h : i ≤ j) : chN kd i ≤ chN kd j := by
  induction j with
  | zero => rw [Nat.le_zero.1 h]; exact Nat.le_refl _
  | succ j ih =>
    rcases Nat.lt_or_ge i (j + 1) with hlt | hge
    · have := ih (by omega)
      by_cases h3 : kd j = 3
      · rw [chN_succ3 h3]; omega
      · rw [chN_succ h3]; exact this
    · rw [show i = j + 1 by omega]; exact Nat.le_refl _
theorem chN_lt {kd : Nat → Nat} {i j : Nat} (h : i < j) (h3 : kd i = 3) : chN kd i < chN kd j := by
  have := chN_mono (kd := kd) (show i + 1 ≤ j from h)
  rw [chN_succ3 h3] at this
  omega
theorem chN_at {kd : Nat → Nat} {i s : Nat} (h : s < chN kd i) : ∃ j, j < i ∧ kd j = 3 ∧ chN kd j = s := by
  induction i with
  | zero => exact absurd h (Nat.not_lt_zero _)
  | succ i ih =>
    by_cases h3 : kd i = 3
    · rw [chN_succ3 h3] at h
      rcases Nat.lt_or_ge s (chN kd i) with hlt | hge
      · obtain ⟨j, h1, h2⟩ := ih hlt
        exact ⟨j, by omega, h2⟩
      · exact ⟨i, by omega, h3, by omega⟩
    · rw [chN_succ h3] at h
      obtain ⟨j, h1, h2⟩ := ih h
      exact ⟨j, by omega, h2⟩

def n2 (kd : Nat → Nat) (i : Nat) : Nat := ((List.range i).filter fun j => Nat.beq (kd j) 2).length
theorem n2_succ {kd : Nat → Nat} {i : Nat} : n2 kd (i + 1) = n2 kd i + if kd i = 2 then 1 else 0 := by
  unfold n2
  rw [List.range_succ, List.filter_append, List.length_append]
  by_cases h : kd i = 2
  · rw [if_pos h, List.filter_cons_of_pos (by rw [beq_true_iff.2 h])]; rfl
  · rw [if_neg h, List.filter_cons_of_neg (by intro hb; exact h (beq_true_iff.1 hb))]; rfl
theorem n2_mono {kd : Nat → Nat} {i j : Nat} (h : i ≤ j) : n2 kd i ≤ n2 kd j := by
  induction j with
  | zero => rw [Nat.le_zero.1 h]; exact Nat.le_refl _
  | succ j ih =>
    rcases Nat.lt_or_ge i (j + 1) with hlt | hge
    · rw [n2_succ]; have := ih (by omega); omega
    · rw [show i = j + 1 by omega]; exact Nat.le_refl _

theorem reserve_m (l : List (CO × Dw)) (H : AH) : (reserve l H).m = H.m := by
  induction l generalizing H with
  | nil => rfl
  | cons x l ih =>
    obtain ⟨o, d⟩ := x
    unfold reserve
    cases Nat.beq d.kind 2 with
    | true => exact ih _
    | false => exact ih _
theorem reserve_next (l : List (CO × Dw)) (H : AH) : (reserve l H).next.toNat = H.next.toNat + (l.filter fun x => Nat.beq x.2.kind 2).length := by
  induction l generalizing H with
  | nil => rfl
  | cons x l ih =>
    obtain ⟨o, d⟩ := x
    unfold reserve
    cases hb : Nat.beq d.kind 2 with
    | true =>
      rw [List.filter_cons_of_pos (by show Nat.beq d.kind 2 = true; exact hb)]
      simp only [cond, ih, Pth.toNat_succ, List.length_cons]
      omega
    | false =>
      rw [List.filter_cons_of_neg (by show ¬ Nat.beq d.kind 2 = true; rw [hb]; simp)]
      exact ih H

/-! ### the states -/
structure Tr (ops : Array Oper) (call : Caller) (C : Nat → CO) (σ : Nat → DS) (V : Nat → AVal) (OB : Nat → AObj) (H : AH) : Prop where
  w : WOk ops
  fact : ∀ i, i < ops.size → Fact call (C i) (dwOf ops (Region.before ops) i) (σ i) (V i) (OB i) (σ (i + 1))
  s0 : (σ 0).s = 0
  pend0 : (σ 0).pend = []
  hs0 : (σ 0).hs = [(σ 0).H]
  ids0 : (σ 0).ids = H.next
  next0 : (σ 0).H.next.toNat = H.next.toNat + n2 (kdOf ops) ops.size
  m0 : (σ 0).H.m = H.m
  chk : checkRds (σ ops.size).hs (σ ops.size).s (σ ops.size).rds = true

section
variable {ops : Array Oper} {call : Caller} {C : Nat → CO} {σ : Nat → DS} {V : Nat → AVal} {OB : Nat → AObj} {H : AH}

theorem Tr.s_eq (t : Tr ops call C σ V OB H) {i : Nat} (hi : i ≤ ops.size) : (σ i).s = chN (kdOf ops) i := by
  induction i with
  | zero => exact t.s0
  | succ i ih =>
    have h0 := ih (by omega)
    have hf := t.fact i (by omega)
    have hkd : (dwOf ops (Region.before ops) i).kind = kdOf ops i := rfl
    generalize σ (i + 1) = σ' at hf ⊢
    cases hf with
    | skip3 hw hk hv => rw [hkd] at hk; rw [chN_succ3 hk, ← h0]
    | act hw hk hv => rw [hkd] at hk; rw [chN_succ3 hk, ← h0]
    | skip hw hk hv => rw [hkd] at hk; rw [chN_succ hk]; exact h0
    | pure hw hk hv hb => rw [hkd] at hk; rw [chN_succ (by omega)]; exact h0
    | read hw hk hv hb => rw [hkd] at hk; rw [chN_succ (by omega)]; exact h0
    | make hw hk hv => rw [hkd] at hk; rw [chN_succ (by omega)]; exact h0

/-- a block is made by the operation k -/
def Made (ops : Array Oper) (C : Nat → CO) (σ : Nat → DS) (k : Nat) : Prop := k < ops.size ∧ kdOf ops k = 2 ∧ wants [] (σ k).e (C k).guard = .go

theorem Tr.made_ids (t : Tr ops call C σ V OB H) {k : Nat} (h : Made ops C σ k) : (σ (k + 1)).ids = (σ k).ids.succ ∧ mkBlock [] (σ k).e (C k).op (σ k).ids = some (OB k, V k) := by
  have hf := t.fact k h.1
  have hkd : (dwOf ops (Region.before ops) k).kind = kdOf ops k := rfl
  have hw := h.2.2
  have hk := h.2.1
  generalize σ (k + 1) = σ' at hf ⊢
  cases hf with
  | make hw hk' hv => exact ⟨rfl, hv⟩
  | skip3 hw' _ _ => rw [hw] at hw'; cases hw'
  | skip hw' _ _ => rw [hw] at hw'; cases hw'
  | pure _ hk' _ _ => rw [hkd] at hk'; omega
  | read _ hk' _ _ => rw [hkd] at hk'; omega
  | act _ hk' _ => rw [hkd] at hk'; omega

theorem Tr.ids_le (t : Tr ops call C σ V OB H) {i : Nat} (hi : i ≤ ops.size) : H.next.toNat ≤ (σ i).ids.toNat ∧ (σ i).ids.toNat ≤ H.next.toNat + n2 (kdOf ops) i := by
  induction i with
  | zero => rw [t.ids0]; exact ⟨Nat.le_refl _, Nat.le_add_right _ _⟩
  | succ i ih =>
    obtain ⟨h1, h2⟩ := ih (by omega)
    have hf := t.fact i (by omega)
    have hkd : (dwOf ops (Region.before ops) i).kind = kdOf ops i := rfl
    have hm := n2_mono (kd := kdOf ops) (Nat.le_succ i)
    have hs := n2_succ (kd := kdOf ops) (i := i)
    generalize σ (i + 1) = σ' at hf ⊢
    cases hf with
    | make hw hk hv =>
      rw [hkd] at hk
      rw [if_pos hk] at hs
      show H.next.toNat ≤ (Pth.succ _).toNat ∧ (Pth.succ _).toNat ≤ _
      rw [Pth.toNat_succ, hs]
      omega
    | skip3 hw hk hv => exact ⟨h1, Nat.le_trans h2 (by omega)⟩
    | skip hw hk hv => exact ⟨h1, Nat.le_trans h2 (by omega)⟩
    | pure hw hk hv hb => exact ⟨h1, Nat.le_trans h2 (by omega)⟩
    | read hw hk hv hb => exact ⟨h1, Nat.le_trans h2 (by omega)⟩
    | act hw hk hv => exact ⟨h1, Nat.le_trans h2 (by omega)⟩

theorem Tr.ids_mono (t : Tr ops call C σ V OB H) {i j : Nat} (h : i ≤ j) (hj : j ≤ ops.size) : (σ i).ids.toNat ≤ (σ j).ids.toNat := by
  induction j with
  | zero => rw [Nat.le_zero.1 h]; exact Nat.le_refl _
  | succ j ih =>
    rcases Nat.lt_or_ge i (j + 1) with hlt | hge
    · refine Nat.le_trans (ih (by omega) (by omega)) ?_
      have hf := t.fact j (by omega)
      generalize σ (j + 1) = σ' at hf ⊢
      cases hf with
      | make hw hk hv => show _ ≤ (Pth.succ _).toNat; rw [Pth.toNat_succ]; omega
      | _ => exact Nat.le_refl _
    · rw [show i = j + 1 by omega]; exact Nat.le_refl _

theorem Tr.id_inj (t : Tr ops call C σ V OB H) {k k' : Nat} (h : Made ops C σ k) (h' : Made ops C σ k') (e : (σ k).ids = (σ k').ids) : k = k' := by
  have key : ∀ {a b : Nat}, Made ops C σ a → Made ops C σ b → a < b → (σ a).ids ≠ (σ b).ids := by
    intro a b ha hb hab e
    have h1 := (t.made_ids ha).1
    have h2 := t.ids_mono (show a + 1 ≤ b from hab) (Nat.le_of_lt hb.1)
    rw [h1, Pth.toNat_succ, e] at h2
    omega
  rcases Nat.lt_trichotomy k k' with hlt | heq | hgt
  · exact absurd e (key h h' hlt)
  · exact heq
  · exact absurd e.symm (key h' h hgt)

theorem Tr.id_range (t : Tr ops call C σ V OB H) {k : Nat} (h : Made ops C σ k) : H.next.toNat ≤ (σ k).ids.toNat ∧ (σ k).ids.toNat < (σ 0).H.next.toNat := by
  refine ⟨(t.ids_le (Nat.le_of_lt h.1)).1, ?_⟩
  have h1 := (t.made_ids h).1
  have h2 := (t.ids_le (show k + 1 ≤ ops.size from h.1)).2
  rw [h1, Pth.toNat_succ] at h2
  have h3 := n2_mono (kd := kdOf ops) (show k + 1 ≤ ops.size from h.1)
  rw [t.next0]
  omega

/-- the blocks that wait -/
theorem Tr.pend_iff (t : Tr ops call C σ V OB H) {i : Nat} (hi : i ≤ ops.size) (p : Pend) :
    p ∈ (σ i).pend ↔ ∃ k, k < i ∧ Made ops C σ k ∧ p = ⟨hiOf ops (Region.before ops) k, (σ k).ids, OB k⟩ ∧ chN (kdOf ops) i ≤ hiOf ops (Region.before ops) k := by
  induction i with
  | zero => rw [t.pend0]; constructor
            · intro h; cases h
            · rintro ⟨k, h, _⟩; exact absurd h (Nat.not_lt_zero _)
  | succ i ih =>
    have ih := ih (by omega)
    have hf := t.fact i (by omega)
    have hs := t.s_eq (i := i) (by omega)
    have hkd : (dwOf ops (Region.before ops) i).kind = kdOf ops i := rfl
    have keep : kdOf ops i = 3 → (p ∈ keepP (σ i).s (σ i).pend ↔ ∃ k, k < i + 1 ∧ Made ops C σ k ∧ p = ⟨hiOf ops (Region.before ops) k, (σ k).ids, OB k⟩ ∧ chN (kdOf ops) (i + 1) ≤ hiOf ops (Region.before ops) k) := by
      intro h3
      rw [mem_keepP, ih, chN_succ3 h3, hs]
      constructor
      · rintro ⟨⟨k, h1, h2, h4, h5⟩, h6⟩
        refine ⟨k, by omega, h2, h4, ?_⟩
        rw [h4] at h6
        simp only at h6
        omega
      · rintro ⟨k, h1, h2, h4, h5⟩
        have : k ≠ i := fun e => by subst e; have := h2.2.1; omega
        refine ⟨⟨k, by omega, h2, h4, by omega⟩, ?_⟩
        rw [h4]
        simp only
        omega
    have same : (¬ Made ops C σ i) → kdOf ops i ≠ 3 → (p ∈ (σ i).pend ↔ ∃ k, k < i + 1 ∧ Made ops C σ k ∧ p = ⟨hiOf ops (Region.before ops) k, (σ k).ids, OB k⟩ ∧ chN (kdOf ops) (i + 1) ≤ hiOf ops (Region.before ops) k) := by
      intro hm h3
      rw [ih, chN_succ h3]
      constructor
      · rintro ⟨k, h1, h2⟩; exact ⟨k, by omega, h2⟩
      · rintro ⟨k, h1, h2⟩
        have : k ≠ i := fun e => by subst e; exact hm h2.1
        exact ⟨k, by omega, h2⟩
    generalize hσ : σ (i + 1) = σ' at hf ⊢
    cases hf with
    | skip3 hw hk hv => exact keep hk
    | act hw hk hv => exact keep hk
    | skip hw hk hv => exact same (fun hm => by have := hm.2.2; rw [hw] at this; cases this) hk
    | pure hw hk hv hb => rw [hkd] at hk; exact same (fun hm => by have := hm.2.1; omega) (by omega)
    | read hw hk hv hb => rw [hkd] at hk; exact same (fun hm => by have := hm.2.1; omega) (by omega)
    | make hw hk hv =>
      rw [hkd] at hk
      have hm : Made ops C σ i := ⟨by omega, hk, hw⟩
      rw [List.mem_cons, ih, chN_succ (by omega)]
      constructor
      · rintro (rfl | ⟨k, h1, h2⟩)
        · refine ⟨i, by omega, hm, rfl, ?_⟩
          rcases Nat.lt_or_ge (hiOf ops (Region.before ops) i) (chN (kdOf ops) i) with hlt | hge
          · obtain ⟨j, hj, hj3, hjc⟩ := chN_at hlt
            have := (t.w.place i j (by omega) (by omega) (.inr hk) hj3).2 (by omega)
            have := (t.w.ahead j i (by omega) (by omega) this).1
            omega
          · exact hge
        · exact ⟨k, by omega, h2⟩
      · rintro ⟨k, h1, h2, h3, h4⟩
        by_cases e : k = i
        · subst e; exact .inl h3
        · exact .inr ⟨k, by omega, h2, h3, h4⟩

/-! ### the heaps of the chain -/
theorem Tr.hs_ok (t : Tr ops call C σ V OB H) {i : Nat} (hi : i ≤ ops.size) : (σ i).hs.length = (σ i).s + 1 ∧ (σ i).hs[0]? = some (σ i).H := by
  induction i with
  | zero => rw [t.hs0, t.s0]; exact ⟨rfl, rfl⟩
  | succ i ih =>
    obtain ⟨h1, h2⟩ := ih (by omega)
    have hf := t.fact i (by omega)
    generalize σ (i + 1) = σ' at hf ⊢
    cases hf with
    | skip3 hw hk hv => exact ⟨by simp [h1], rfl⟩
    | act hw hk hv => exact ⟨by simp [h1], rfl⟩
    | skip hw hk hv => exact ⟨h1, h2⟩
    | pure hw hk hv hb => exact ⟨h1, h2⟩
    | read hw hk hv hb => exact ⟨h1, h2⟩
    | make hw hk hv => exact ⟨h1, h2⟩

theorem Tr.hs_keep (t : Tr ops call C σ V OB H) {i j : Nat} (hij : i ≤ j) (hj : j ≤ ops.size) {s : Nat} (hs : s ≤ (σ i).s) : (σ i).s ≤ (σ j).s ∧ (σ j).hs[(σ j).s - s]? = (σ i).hs[(σ i).s - s]? := by
  induction j with
  | zero => rw [Nat.le_zero.1 hij]; exact ⟨Nat.le_refl _, rfl⟩
  | succ j ih =>
    rcases Nat.lt_or_ge i (j + 1) with hlt | hge
    · obtain ⟨h1, h2⟩ := ih (by omega) (by omega)
      have hf := t.fact j (by omega)
      generalize σ (j + 1) = σ' at hf ⊢
      cases hf with
      | skip3 hw hk hv => refine ⟨Nat.le_succ_of_le h1, ?_⟩; rw [← h2]; simp only; rw [show (σ j).s + 1 - s = ((σ j).s - s) + 1 by omega, List.getElem?_cons_succ]
      | act hw hk hv => refine ⟨Nat.le_succ_of_le h1, ?_⟩; rw [← h2]; simp only; rw [show (σ j).s + 1 - s = ((σ j).s - s) + 1 by omega, List.getElem?_cons_succ]
      | skip hw hk hv => exact ⟨h1, h2⟩
      | pure hw hk hv hb => exact ⟨h1, h2⟩
      | read hw hk hv hb => exact ⟨h1, h2⟩
      | make hw hk hv => exact ⟨h1, h2⟩
    · rw [show i = j + 1 by omega]; exact ⟨Nat.le_refl _, rfl⟩

/-- the heap when s operations of the chain are done -/
def HHof (σ : Nat → DS) (n s : Nat) : AH := ((σ n).hs[(σ n).s - s]?).getD default

theorem Tr.H_eq (t : Tr ops call C σ V OB H) {i : Nat} (hi : i ≤ ops.size) : (σ i).H = HHof σ ops.size (chN (kdOf ops) i) := by
  unfold HHof
  rw [← t.s_eq hi, (t.hs_keep hi (Nat.le_refl _) (Nat.le_refl _)).2, Nat.sub_self, (t.hs_ok hi).2]
  rfl

/-- a read, checked at each place of the chain at which it may come up -/
theorem Tr.rds_mono (t : Tr ops call C σ V OB H) {i j : Nat} (hij : i ≤ j) (hj : j ≤ ops.size) {r : Rd} (hr : r ∈ (σ i).rds) : r ∈ (σ j).rds := by
  induction j with
  | zero => rw [Nat.le_zero.1 hij] at hr; exact hr
  | succ j ih =>
    rcases Nat.lt_or_ge i (j + 1) with hlt | hge
    · have h1 := ih (by omega) (by omega)
      have hf := t.fact j (by omega)
      generalize σ (j + 1) = σ' at hf ⊢
      cases hf with
      | read hw hk hv hb =>
        simp only
        cases Nat.beq (dwOf ops (Region.before ops) j).lo (dwOf ops (Region.before ops) j).hi with
        | true => exact h1
        | false => exact List.mem_cons_of_mem _ h1
      | _ => exact h1
    · rw [show i = j + 1 by omega] at hr; exact hr

theorem Tr.read_at (t : Tr ops call C σ V OB H) {i : Nat} (hi : i < ops.size) (hk : kdOf ops i = 1) (hw : wants [] (σ i).e (C i).guard = .go) {s : Nat} (h1 : loOf ops (Region.before ops) i ≤ s) (h2 : s ≤ hiOf ops (Region.before ops) i) :
    V i ≠ .bad ∧ (pureV (fixRd (σ i).e (C i).op) [] .nil (HHof σ ops.size s) = V i ∨ pureV (C i).op [] (σ i).e (HHof σ ops.size s) = V i) := by
  have hf := t.fact i hi
  have hkd : (dwOf ops (Region.before ops) i).kind = kdOf ops i := rfl
  have htop := (t.w.top i hi (.inl hk))
  generalize hσ : σ (i + 1) = σ' at hf
  cases hf with
  | read _ hk' hv hb =>
    refine ⟨hb, ?_⟩
    have hH := t.H_eq (Nat.le_of_lt hi)
    -- the place of the text lies between
    have p1 : loOf ops (Region.before ops) i ≤ chN (kdOf ops) i := by
      rcases Nat.lt_or_ge (chN (kdOf ops) i) (loOf ops (Region.before ops) i) with hlt | hge
      · obtain ⟨j, hj, hj3, hjc⟩ := chN_at (Nat.lt_of_lt_of_le hlt htop.1)
        have hb := (t.w.place i j hi hj (.inl hk) hj3).1 (by omega)
        have hlt2 := (t.w.ahead i j hi hj hb).1
        have := chN_lt hlt2 hj3
        omega
      · exact hge
    have p2 : chN (kdOf ops) i ≤ hiOf ops (Region.before ops) i := by
      rcases Nat.lt_or_ge (hiOf ops (Region.before ops) i) (chN (kdOf ops) i) with hlt | hge
      · obtain ⟨j, hj, hj3, hjc⟩ := chN_at hlt
        have hb := (t.w.place i j hi (by omega) (.inl hk) hj3).2 (by omega)
        have := (t.w.ahead j i (by omega) hi hb).1
        omega
      · exact hge
    cases hq : Nat.beq (dwOf ops (Region.before ops) i).lo (dwOf ops (Region.before ops) i).hi with
    | true =>
      have : loOf ops (Region.before ops) i = hiOf ops (Region.before ops) i := beq_true_iff.1 hq
      rw [show s = chN (kdOf ops) i by omega, ← hH]
      exact .inr hv
    | false =>
      have hm : (⟨loOf ops (Region.before ops) i, hiOf ops (Region.before ops) i, fixRd (σ i).e (C i).op, V i⟩ : Rd) ∈ (σ (i + 1)).rds := by
        rw [hσ]
        simp only [hq, cond]
        exact List.mem_cons_self ..
      have hm2 := t.rds_mono (show i + 1 ≤ ops.size from hi) (Nat.le_refl _) hm
      have hc := checkRds_mem t.chk _ hm2
      have hsn := t.s_eq (Nat.le_refl ops.size)
      have hsle : s ≤ (σ ops.size).s := by rw [hsn]; exact Nat.le_trans h2 htop.2
      obtain ⟨HX, hHX⟩ : ∃ HX, (σ ops.size).hs[(σ ops.size).s - s]? = some HX := by
        have hl := (t.hs_ok (Nat.le_refl ops.size)).1
        exact ⟨_, List.getElem?_eq_getElem (by omega)⟩
      have := checkRd_at hc _ HX hHX (by omega) (by simp only; omega) (by simp only; omega)
      refine .inl ?_
      unfold HHof
      rw [hHX]
      exact eqv_eq this
  | skip3 hw' _ _ => rw [hw] at hw'; cases hw'
  | skip hw' _ _ => rw [hw] at hw'; cases hw'
  | pure _ hk' _ _ => rw [hkd] at hk'; omega
  | make _ hk' _ => rw [hkd] at hk'; omega
  | act _ hk' _ => rw [hkd] at hk'; omega
end
end Go.Ex

namespace Go.Ex
open Go
variable {P : Program} {ω : Nat → Value} {N : Nat} {S : List (Nat × Pth)} {ops : Array Oper} {call : Caller} {C : Nat → CO} {σ : Nat → DS} {V : Nat → AVal} {OB : Nat → AObj}

/-- the region, compiled; its run in the order of the text -/
structure Reg (P : Program) (ω : Nat → Value) (N : Nat) (S : List (Nat × Pth)) (ops : Array Oper) (call : Caller) (C : Nat → CO) (σ : Nat → DS) (V : Nat → AVal) (OB : Nat → AObj) (ρ0 : Pth → Option BI) (H0 : AH) (a0 : Act) (w0 : World) : Prop where
  hω : ∀ i, (ω i).oneCell' = true
  hcall : CallerOk P ω call
  hS : slotsOk S = true
  t : Tr ops call C σ V OB H0
  comp : ∀ i o, ops[i]? = some o → cOperD P N S ops o = some (C i)
  env0 : EnvOk ρ0 ω S (σ 0).e a0.tmps
  glob0 : GlobOk P ρ0
  size0 : a0.tmps.size = N
  hr0 : HR P ρ0 ω H0 w0

variable {ρ0 : Pth → Option BI} {H0 : AH} {a0 : Act} {w0 : World}

abbrev HHs (σ : Nat → DS) (ops : Array Oper) (s : Nat) : AH := HHof σ ops.size s
def Din (listed : Array Bool) (i : Nat) : Prop := listed.getD i false = true

/-- the blocks that are made and not taken in yet -/
def Kp (ops : Array Oper) (C : Nat → CO) (σ : Nat → DS) (D : Nat → Prop) (s k : Nat) : Prop := Made ops C σ k ∧ D k ∧ s ≤ hiOf ops (Region.before ops) k

structure Inv (P : Program) (ω : Nat → Value) (N : Nat) (ops : Array Oper) (C : Nat → CO) (σ : Nat → DS) (V : Nat → AVal) (OB : Nat → AObj) (ρ0 : Pth → Option BI) (H0 : AH) (a0 : Act) (w0 : World)
    (D : Nat → Prop) (ρ : Pth → Option BI) (s : Nat) (Ĥ : AH) (a : Act) (w : World) : Prop where
  top : s ≤ chN (kdOf ops) ops.size
  chain : ∀ j, j < ops.size → kdOf ops j = 3 → (D j ↔ chN (kdOf ops) j < s)
  closed : ∀ i j, i < ops.size → j < ops.size → D i → bitAt (Region.before ops) i j = true → D j
  over : Over (Kp ops C σ D s) (fun k => (σ k).ids) OB (HHs σ ops s) Ĥ
  dead : ∀ k, Made ops C σ k → s ≤ hiOf ops (Region.before ops) k → (HHs σ ops s).m.get .dead (σ k).ids = .dead
  step : Step P ρ0 ω H0 w0 ρ Ĥ w
  nx : (σ 0).H.next.toNat ≤ Ĥ.next.toNat
  free : ∀ k, Made ops C σ k → ¬ D k → ρ (σ k).ids = none
  size : a.tmps.size = N
  defers : a.defers = a0.defers
  old : ∀ t, (∀ (j : Nat) (oj : Oper), ops[j]? = some oj → oj.dst = some t → ¬ D j) → a.tmps.getD t undef = a0.tmps.getD t undef
  new : ∀ (j : Nat) (oj : Oper) (t : Nat), ops[j]? = some oj → oj.dst = some t → D j → VR ρ ω (V j) (a.tmps.getD t undef)

theorem lt_of_some {α : Type} {xs : Array α} {i : Nat} {o : α} (h : xs[i]? = some o) : i < xs.size := (Array.getElem?_eq_some_iff.1 h).1

theorem Made.owned (t : Tr ops call C σ V OB H0) {k : Nat} (h : Made ops C σ k) : owned (OB k) = true := by
  have := (t.made_ids h).2
  generalize (C k).op = cop at this
  cases cop with
  | box x =>
    simp only [mkBlock, boxV] at this
    split at this
    · cases this
    · simp only [Option.some.injEq, Prod.mk.injEq] at this; rw [← this.1]; rfl
  | bsl esz len z parts =>
    simp only [mkBlock] at this
    split at this
    · simp only [Option.some.injEq, Prod.mk.injEq] at this; rw [← this.1]; rfl
    · cases this
  | mksl esz bytes z l c =>
    simp only [mkBlock] at this
    split at this
    · rename_i len cap _ _
      cases hq : (Nat.ble len cap && small cap bytes) with
      | false => rw [hq] at this; cases this
      | true => rw [hq] at this; simp only [cond, Option.some.injEq, Prod.mk.injEq] at this; rw [← this.1]; rfl
    · cases this
  | mkmap => simp only [mkBlock, Option.some.injEq, Prod.mk.injEq] at this; rw [← this.1]; rfl
  | _ => simp only [mkBlock] at this; cases this

theorem comp_some (R : Reg P ω N S ops call C σ V OB ρ0 H0 a0 w0) {i : Nat} {o : Oper} (ho : ops[i]? = some o) :
    cGuard P N (ownS S ops o) ⟨[], 0⟩ ops o.guard = some (C i).guard ∧ cDstD N S o.dst = some (C i).dst ∧ (C i).op = (cOp P N (ownS S ops o) ⟨[], 0⟩ o.op).getD .bad := by
  have := R.comp i o ho
  unfold cOperD at this
  simp only [Option.bind_eq_some_iff, Option.some.injEq] at this
  obtain ⟨g, h1, d, h2, h3⟩ := this
  rw [← h3]
  exact ⟨h1, h2, rfl⟩

theorem fact_e (R : Reg P ω N S ops call C σ V OB ρ0 H0 a0 w0) {i : Nat} (hi : i < ops.size) : (σ (i + 1)).e = setE (σ i).e (C i).dst (V i) := by
  have hf := R.t.fact i hi
  generalize σ (i + 1) = σ' at hf ⊢
  cases hf <;> rfl

/-- what the environment of the text holds -/
theorem env_text (R : Reg P ω N S ops call C σ V OB ρ0 H0 a0 w0) {t : Nat} {p : Pth} (hp : look S t = some p) {i : Nat} (hi : i ≤ ops.size) :
    (∀ (j : Nat) (oj : Oper), j < i → ops[j]? = some oj → oj.dst = some t → (σ i).e.get .bad p = V j) ∧ ((∀ (j : Nat) (oj : Oper), j < i → ops[j]? = some oj → oj.dst ≠ some t) → (σ i).e.get .bad p = (σ 0).e.get .bad p) := by
  induction i with
  | zero => exact ⟨fun j oj h => absurd h (Nat.not_lt_zero _), fun _ => rfl⟩
  | succ i ih =>
    obtain ⟨h1, h2⟩ := ih (by omega)
    have he := fact_e R (show i < ops.size by omega)
    obtain ⟨o, ho⟩ : ∃ o, ops[i]? = some o := ⟨_, Array.getElem?_eq_getElem (show i < ops.size by omega)⟩
    have hd := (comp_some R ho).2.1
    have other : o.dst ≠ some t → (σ (i + 1)).e.get .bad p = (σ i).e.get .bad p := by
      intro hne
      rw [he]
      cases hdo : o.dst with
      | none =>
        rw [hdo] at hd
        simp only [cDstD, Option.some.injEq] at hd
        rw [← hd]; rfl
      | some t' =>
        rw [hdo] at hd
        simp only [cDstD] at hd
        cases hb : Nat.blt t' N with
        | false => rw [hb] at hd; cases hd
        | true =>
          rw [hb] at hd
          simp only [cond] at hd
          cases hl : look S t' with
          | none => rw [hl] at hd; simp only [Option.some.injEq] at hd; rw [← hd]; rfl
          | some p' =>
            rw [hl] at hd
            simp only [Option.some.injEq] at hd
            rw [← hd]
            show ((σ i).e.put .bad (V i) p').get .bad p = _
            exact get_put_ne _ _ (fun e => by subst e; exact hne (by rw [hdo, slots_inj R.hS hl hp])) _
    have this_ : o.dst = some t → (σ (i + 1)).e.get .bad p = V i := by
      intro hdo
      rw [he]
      rw [hdo] at hd
      simp only [cDstD] at hd
      cases hb : Nat.blt t N with
      | false => rw [hb] at hd; cases hd
      | true =>
        rw [hb, hp] at hd
        simp only [cond, Option.some.injEq] at hd
        rw [← hd]
        exact get_put_same _ _ _ _
    refine ⟨fun j oj hj hoj hdj => ?_, fun hall => ?_⟩
    · by_cases e : j = i
      · subst e
        rw [ho] at hoj; cases hoj
        exact this_ hdj
      · rw [other (R.t.w.one j oj hoj t hdj i o ho (Ne.symm e))]
        exact h1 j oj (by omega) hoj hdj
    · rw [other (hall i o (by omega) ho)]
      exact h2 fun j oj hj hoj => hall j oj (by omega) hoj

theorem ownS_look {o : Oper} (hS : slotsOk S = true) {t : Nat} {p : Pth} (h : look (ownS S ops o) t = some p) : t ∈ opTmps ops o ∧ look S t = some p := by
  have hm := look_mem h
  unfold ownS at hm
  rw [List.mem_filter] at hm
  refine ⟨?_, ?_⟩
  · have := hm.2
    simp only at this
    generalize opTmps ops o = l at this
    induction l with
    | nil => cases this
    | cons u l ih =>
      unfold isIn at this
      cases hb : Nat.beq t u with
      | true => rw [beq_true_iff.1 hb]; exact List.mem_cons_self ..
      | false => rw [hb] at this; exact List.mem_cons_of_mem _ (ih this)
  · have hm1 := hm.1
    clear h hm
    induction S with
    | nil => cases hm1
    | cons x S ih =>
      obtain ⟨u, q⟩ := x
      simp only [slotsOk, Bool.and_eq_true, List.all_eq_true] at hS
      unfold look
      rcases List.mem_cons.1 hm1 with hm1 | hm1
      · simp only [Prod.mk.injEq] at hm1
        obtain ⟨rfl, rfl⟩ := hm1
        rw [beq_true_iff.2 rfl]; rfl
      · have hne : Nat.beq u t = false := by
          have := hS.1 _ hm1
          simp only [Bool.not_eq_true'] at this
          exact this.1
        rw [hne]
        exact ih hS.2 hm1

section
variable {D : Nat → Prop} {ρ : Pth → Option BI} {s : Nat} {Ĥ : AH} {a : Act} {w : World}

/-- an operation that may come up now: its operands are those of the text -/
theorem ready_env (R : Reg P ω N S ops call C σ V OB ρ0 H0 a0 w0) (I : Inv P ω N ops C σ V OB ρ0 H0 a0 w0 D ρ s Ĥ a w) {i : Nat} {o : Oper} (ho : ops[i]? = some o) (hn : ¬ D i)
    (hpre : ∀ j, j < ops.size → bitAt (Region.before ops) i j = true → D j) : EnvOk ρ ω (ownS S ops o) (σ i).e a.tmps := by
  have hi := lt_of_some ho
  intro t p hp
  obtain ⟨ht, hp⟩ := ownS_look R.hS hp
  obtain ⟨e1, e2⟩ := env_text R hp (Nat.le_of_lt hi)
  by_cases hw : ∃ (j : Nat) (oj : Oper), ops[j]? = some oj ∧ oj.dst = some t
  · obtain ⟨j, oj, hoj, hd⟩ := hw
    have hj := lt_of_some hoj
    by_cases hlt : j < i
    · have hb : bitAt (Region.before ops) i j = true := by
        rcases R.t.w.looks i o ho t ht j oj hoj (by omega) hd with h | h
        · exact h
        · have := (R.t.w.ahead j i hj hi h).1; omega
      rw [e1 j oj hlt hoj hd]
      exact I.new j oj t hoj hd (hpre j hj hb)
    · have hnd : ¬ D j := by
        by_cases e : j = i
        · subst e; exact hn
        · intro hD
          rcases R.t.w.looks i o ho t ht j oj hoj e hd with h | h
          · have := (R.t.w.ahead i j hi hj h).1; omega
          · exact hn (I.closed j i hj hi hD h)
      have un : ∀ (j' : Nat) (oj' : Oper), ops[j']? = some oj' → oj'.dst = some t → j' = j := by
        intro j' oj' h1 h2
        by_cases e : j' = j
        · exact e
        · exact absurd h2 (R.t.w.one j oj hoj t hd j' oj' h1 e)
      rw [e2 fun j' oj' h0 h1 h2 => by have := un j' oj' h1 h2; omega]
      rw [I.old t fun j' oj' h1 h2 => by rw [un j' oj' h1 h2]; exact hnd]
      exact (R.env0 t p hp).mono I.step.sub
  · rw [e2 fun j oj _ h1 h2 => hw ⟨j, oj, h1, h2⟩, I.old t fun j oj h1 h2 => absurd ⟨j, oj, h1, h2⟩ hw]
    exact (R.env0 t p hp).mono I.step.sub

/-- the chain's place at which an operation of the chain comes up -/
theorem ready_chain (R : Reg P ω N S ops call C σ V OB ρ0 H0 a0 w0) (I : Inv P ω N ops C σ V OB ρ0 H0 a0 w0 D ρ s Ĥ a w) {i : Nat} (hi : i < ops.size) (hn : ¬ D i) (hpre : ∀ j, j < ops.size → bitAt (Region.before ops) i j = true → D j) (h3 : kdOf ops i = 3) : s = chN (kdOf ops) i := by
  have h1 : ¬ chN (kdOf ops) i < s := fun h => hn ((I.chain i hi h3).2 h)
  rcases Nat.lt_or_ge s (chN (kdOf ops) i) with hlt | hge
  · obtain ⟨j, hj, hj3, hjc⟩ := chN_at hlt
    have hD := hpre j (by omega) (R.t.w.chain j i hj hi hj3 h3)
    have := (I.chain j (by omega) hj3).1 hD
    omega
  · omega

theorem ready_place (R : Reg P ω N S ops call C σ V OB ρ0 H0 a0 w0) (I : Inv P ω N ops C σ V OB ρ0 H0 a0 w0 D ρ s Ĥ a w) {i : Nat} (hi : i < ops.size) (hn : ¬ D i) (hpre : ∀ j, j < ops.size → bitAt (Region.before ops) i j = true → D j) (hk : kdOf ops i = 1 ∨ kdOf ops i = 2) :
    loOf ops (Region.before ops) i ≤ s ∧ s ≤ hiOf ops (Region.before ops) i := by
  have htop := R.t.w.top i hi hk
  have ht := I.top
  constructor
  · rcases Nat.lt_or_ge s (loOf ops (Region.before ops) i) with hlt | hge
    · obtain ⟨j, hj, hj3, hjc⟩ := chN_at (Nat.lt_of_lt_of_le hlt htop.1)
      have hb := (R.t.w.place i j hi hj hk hj3).1 (by omega)
      have := (I.chain j hj hj3).1 (hpre j hj hb)
      omega
    · exact hge
  · rcases Nat.lt_or_ge (hiOf ops (Region.before ops) i) s with hlt | hge
    · obtain ⟨j, hj, hj3, hjc⟩ := chN_at (Nat.lt_of_lt_of_le hlt ht)
      have hb := (R.t.w.place i j hi hj hk hj3).2 (by omega)
      have hD := (I.chain j hj hj3).2 (by omega)
      exact absurd (I.closed j i hj hi hD hb) hn
    · exact hge

theorem kp_lt {k : Nat} (h : Kp ops C σ D s k) : k < ops.size := h.1.1

theorem put_getD_same {a : Act} {o : Oper} {t : Nat} {v : Value} (h : o.dst = some t) (ht : t < a.tmps.size) : (a.put o.dst v).tmps.getD t undef = v := by
  rw [h]; exact getD_set_same ht
theorem put_getD_ne {a : Act} {o : Oper} {t : Nat} {v : Value} (h : o.dst ≠ some t) : (a.put o.dst v).tmps.getD t undef = a.tmps.getD t undef := by
  cases hd : o.dst with
  | none => rfl
  | some u =>
    show (a.tmps.setIfInBounds u v).getD t undef = _
    exact getD_set_ne' (fun e => h (by rw [hd, e]))

/-- the operation is done: what is known then -/
theorem Inv.next (R : Reg P ω N S ops call C σ V OB ρ0 H0 a0 w0) (I : Inv P ω N ops C σ V OB ρ0 H0 a0 w0 D ρ s Ĥ a w) {i : Nat} {o : Oper} (ho : ops[i]? = some o) (hn : ¬ D i) (hpre : ∀ j, j < ops.size → bitAt (Region.before ops) i j = true → D j)
    {ρ' : Pth → Option BI} {s' : Nat} {Ĥ' : AH} {v' : Value} {w' : World} (hs' : s' = if kdOf ops i = 3 then s + 1 else s) (hs0 : kdOf ops i = 3 → s = chN (kdOf ops) i)
    (hover : Over (Kp ops C σ (fun j => j = i ∨ D j) s') (fun k => (σ k).ids) OB (HHs σ ops s') Ĥ')
    (hdead : ∀ k, Made ops C σ k → s' ≤ hiOf ops (Region.before ops) k → (HHs σ ops s').m.get .dead (σ k).ids = .dead)
    (hstep : Step P ρ0 ω H0 w0 ρ' Ĥ' w') (hsub : Sub ρ ρ') (hnx : Ĥ.next.toNat ≤ Ĥ'.next.toNat) (hfree : ∀ k, Made ops C σ k → k ≠ i → ¬ D k → ρ' (σ k).ids = none) (hv : VR ρ' ω (V i) v') :
    Inv P ω N ops C σ V OB ρ0 H0 a0 w0 (fun j => j = i ∨ D j) ρ' s' Ĥ' (a.put o.dst v') w' := by
  have hi := lt_of_some ho
  refine ⟨?_, ?_, ?_, hover, hdead, hstep, Nat.le_trans I.nx hnx, ?_, by rw [put_size]; exact I.size, by rw [put_defers]; exact I.defers, ?_, ?_⟩
  · rw [hs']
    by_cases h3 : kdOf ops i = 3
    · rw [if_pos h3, hs0 h3]
      exact chN_lt hi h3
    · rw [if_neg h3]; exact I.top
  · intro j hj hj3
    have hc := I.chain j hj hj3
    rw [hs']
    by_cases h3 : kdOf ops i = 3
    · rw [if_pos h3]
      have hs := hs0 h3
      constructor
      · rintro (rfl | h)
        · omega
        · have := hc.1 h; omega
      · intro h
        rcases Nat.lt_trichotomy j i with hlt | heq | hgt
        · exact .inr (hc.2 (by rw [hs]; exact chN_lt hlt hj3))
        · exact .inl heq
        · have := chN_lt hgt h3; omega
    · rw [if_neg h3, ← hc]
      constructor
      · rintro (rfl | h)
        · exact absurd hj3 h3
        · exact h
      · exact .inr
  · intro x y hx hy hD hb
    rcases hD with rfl | hD
    · exact .inr (hpre y hy hb)
    · exact .inr (I.closed x y hx hy hD hb)
  · intro k hk hnk
    exact hfree k hk (fun e => hnk (.inl e)) (fun h => hnk (.inr h))
  · intro t ht
    rw [put_getD_ne (fun h => ht i o ho h (.inl rfl))]
    exact I.old t fun j oj h1 h2 h3 => ht j oj h1 h2 (.inr h3)
  · intro j oj t hoj hd hD
    by_cases e : j = i
    · subst e
      rw [ho] at hoj; cases hoj
      have ht : t < a.tmps.size := by
        have := (comp_some R ho).2.1
        rw [hd] at this
        simp only [cDstD] at this
        cases hb : Nat.blt t N with
        | false => rw [hb] at this; cases this
        | true => rw [I.size]; exact Nat.le_of_ble_eq_true hb
      rw [put_getD_same hd ht]
      exact hv
    · rcases hD with h | hD
      · exact absurd h e
      · rw [put_getD_ne (R.t.w.one j oj hoj t hd i o ho (Ne.symm e))]
        exact (I.new j oj t hoj hd hD).mono hsub
end
end Go.Ex

namespace Go.Ex
open Go
variable {P : Program} {ω : Nat → Value} {N : Nat} {S : List (Nat × Pth)} {ops : Array Oper} {call : Caller} {C : Nat → CO} {σ : Nat → DS} {V : Nat → AVal} {OB : Nat → AObj}
variable {ρ0 : Pth → Option BI} {H0 : AH} {a0 : Act} {w0 : World}
variable {D : Nat → Prop} {ρ : Pth → Option BI} {s : Nat} {Ĥ : AH} {a : Act} {w : World}

theorem Over.congrK {K K' : Nat → Prop} {ID : Nat → Pth} {H : AH} (h : ∀ k, K k ↔ K' k) (ho : Over K ID OB H Ĥ) : Over K' ID OB H Ĥ :=
  ⟨ho.next, fun k hk => ho.at_ k ((h k).2 hk), fun id hid => ho.off id fun k hk => hid k ((h k).1 hk)⟩

theorem act_next (R : Reg P ω N S ops call C σ V OB ρ0 H0 a0 w0) (I : Inv P ω N ops C σ V OB ρ0 H0 a0 w0 D ρ s Ĥ a w) {i : Nat} {o : Oper} (ho : ops[i]? = some o) (hn : ¬ D i) (hpre : ∀ j, j < ops.size → bitAt (Region.before ops) i j = true → D j)
    (hnm : ¬ Made ops C σ i) {s' : Nat} (hs' : s' = if kdOf ops i = 3 then s + 1 else s) {HS : AH} (hover : Over (Kp ops C σ D s') (fun k => (σ k).ids) OB HS Ĥ) (hdead : ∀ k, Kp ops C σ D s' k → HS.m.get .dead (σ k).ids = .dead)
    {ρ' : Pth → Option BI} {v' : Value} {w' : World} (hst : Step P ρ ω HS w ρ' (HHs σ ops s') w') (hv : VR ρ' ω (V i) v') :
    ∃ Ĥ', Inv P ω N ops C σ V OB ρ0 H0 a0 w0 (fun j => j = i ∨ D j) ρ' s' Ĥ' (a.put o.dst v') w' := by
  have hi := lt_of_some ho
  have hown : ∀ k, Kp ops C σ D s' k → owned (OB k) = true := fun k hk => Made.owned R.t hk.1
  obtain ⟨u1, u2⟩ := Step.under hover hown hdead I.step.hr hst
  have hiff : ∀ k, Kp ops C σ (fun j => j = i ∨ D j) s' k ↔ Kp ops C σ D s' k := fun k => by
    constructor
    · rintro ⟨h1, rfl | h2, h3⟩
      · exact absurd h1 hnm
      · exact ⟨h1, h2, h3⟩
    · rintro ⟨h1, h2, h3⟩; exact ⟨h1, .inr h2, h3⟩
  obtain ⟨Ĥ', hĤ'⟩ := Over.exists_lt (ID := fun k => (σ k).ids) (OB := OB) (n := ops.size) (K := Kp ops C σ (fun j => j = i ∨ D j) s') (fun k hk => kp_lt hk) (fun k hk k' hk' e => R.t.id_inj hk.1 hk'.1 e) (HHs σ ops s')
  have hstep := u2 Ĥ' (hĤ'.congrK hiff)
  have hfree : ∀ k, Made ops C σ k → ¬ D k → ρ' (σ k).ids = none := by
    intro k hk hnd
    cases hq : ρ' (σ k).ids with
    | none => rfl
    | some x =>
      have h1 := hst.dom _ _ hq (by
        rw [← hover.next]
        exact Nat.lt_of_lt_of_le (R.t.id_range hk).2 I.nx)
      rw [I.free k hk hnd] at h1
      cases h1
  refine ⟨Ĥ', I.next R ho hn hpre hs' (fun h3 => ready_chain R I hi hn hpre h3) hĤ' ?_ (I.step.trans hstep) hst.sub hstep.next (fun k hk _ hnd => hfree k hk hnd) hv⟩
  intro k hk hle
  by_cases hD : D k
  · exact u1 k ⟨hk, hD, hle⟩
  · refine dead_of_not_live fun hl => ?_
    obtain ⟨x, hx, _⟩ := (hst.hr.ok _).lt hl
    rw [hfree k hk hD] at hx
    cases hx

/-- the heap with the blocks taken in that an operation of the chain must find -/
theorem absorb_over (R : Reg P ω N S ops call C σ V OB ρ0 H0 a0 w0) (I : Inv P ω N ops C σ V OB ρ0 H0 a0 w0 D ρ s Ĥ a w) {i : Nat} (hi : i < ops.size) (hn : ¬ D i) (hpre : ∀ j, j < ops.size → bitAt (Region.before ops) i j = true → D j) (h3 : kdOf ops i = 3) :
    Over (Kp ops C σ D (s + 1)) (fun k => (σ k).ids) OB (absorb (σ i).s (σ i).pend (σ i).H) Ĥ ∧ ∀ k, Kp ops C σ D (s + 1) k → (absorb (σ i).s (σ i).pend (σ i).H).m.get .dead (σ k).ids = .dead := by
  have hs := ready_chain R I hi hn hpre h3
  have hsi := R.t.s_eq (Nat.le_of_lt hi)
  have hH := R.t.H_eq (Nat.le_of_lt hi)
  rw [← hs] at hsi hH
  obtain ⟨g1, g2⟩ := absorb_get (σ i).s (σ i).pend (σ i).H
  have tk : ∀ k, Made ops C σ k → hiOf ops (Region.before ops) k = s → k < i ∧ D k := fun k hk he => by
    have hb := R.t.w.takes i k hi hk.1 h3 hk.2.1 (by rw [he, hs])
    exact ⟨(R.t.w.ahead i k hi hk.1 hb).1, hpre k hk.1 hb⟩
  have inpend : ∀ p ∈ (σ i).pend, p.hi = (σ i).s → ∃ k, Made ops C σ k ∧ D k ∧ hiOf ops (Region.before ops) k = s ∧ p.id = (σ k).ids ∧ p.obj = OB k := by
    intro p hp hhi
    obtain ⟨k, h1, h2, h4, h5⟩ := (R.t.pend_iff (Nat.le_of_lt hi) p).1 hp
    subst h4
    simp only at hhi
    rw [hsi] at hhi
    exact ⟨k, h2, (tk k h2 hhi).2, hhi, rfl, rfl⟩
  refine ⟨⟨?_, fun k hk => I.over.at_ k ⟨hk.1, hk.2.1, by have := hk.2.2; omega⟩, fun id hid => ?_⟩, fun k hk => ?_⟩
  · rw [g1, hH]; exact I.over.next
  · rcases g2 id with ⟨p, hp, hhi, hpid, hget⟩ | ⟨hall, hget⟩
    · obtain ⟨k, h1, h2, h4, h5, h6⟩ := inpend p hp hhi
      rw [hget, h6, ← hpid, h5]
      exact I.over.at_ k ⟨h1, h2, by omega⟩
    · rw [hget, hH]
      refine I.over.off id fun k hk e => ?_
      rcases Nat.lt_or_ge s (hiOf ops (Region.before ops) k) with hlt | hge
      · exact hid k ⟨hk.1, hk.2.1, hlt⟩ e
      · have he : hiOf ops (Region.before ops) k = s := Nat.le_antisymm hge hk.2.2
        have hlt := (tk k hk.1 he).1
        refine hall ⟨hiOf ops (Region.before ops) k, (σ k).ids, OB k⟩ ((R.t.pend_iff (Nat.le_of_lt hi) _).2 ⟨k, hlt, hk.1, rfl, by rw [he, hs]; exact Nat.le_refl _⟩) (by rw [hsi]; exact he) e
  · rcases g2 (σ k).ids with ⟨p, hp, hhi, hpid, hget⟩ | ⟨hall, hget⟩
    · obtain ⟨k', h1, h2, h4, h5, h6⟩ := inpend p hp hhi
      have : k' = k := R.t.id_inj h1 hk.1 (h5.symm.trans hpid)
      subst this
      have := hk.2.2
      omega
    · rw [hget, hH]
      exact I.dead k hk.1 (by have := hk.2.2; omega)

theorem kindOf_read {op : Op} (h : kindOf op = 1) : (∃ t x, op = .load t x) ∨ ∃ t m k ok, op = .lookup t m k ok := by
  cases op <;> simp only [kindOf] at h <;> first
    | (cases h; done)
    | exact .inl ⟨_, _, rfl⟩
    | exact .inr ⟨_, _, _, _, rfl⟩
    | (split at h <;> first | (cases h; done) | (split at h <;> cases h))

/-- one operation that may come up -/
theorem step_op (R : Reg P ω N S ops call C σ V OB ρ0 H0 a0 w0) (I : Inv P ω N ops C σ V OB ρ0 H0 a0 w0 D ρ s Ĥ a w) {i : Nat} {o : Oper} (ho : ops[i]? = some o) (hn : ¬ D i) (hpre : ∀ j, j < ops.size → bitAt (Region.before ops) i j = true → D j)
    {ro : Option Nat} {Q : Exit → Act → World → Prop} {K : Act → World → Prop} (hK : ∀ ρ' s' Ĥ' a' w', Inv P ω N ops C σ V OB ρ0 H0 a0 w0 (fun j => j = i ∨ D j) ρ' s' Ĥ' a' w' → K a' w') : wpOpIn (FF ro) 0 P ops Q i K a w := by
  have hi := lt_of_some ho
  unfold wpOpIn
  rw [ho]
  simp only
  have henv := ready_env R I ho hn hpre
  have hg : GlobOk P ρ := R.glob0.mono I.step.sub
  obtain ⟨hcg, hcd, hcop⟩ := comp_some R ho
  obtain ⟨hgo, hskip⟩ := guard_sound hg henv CtxOk.start hcg
  have hkd : (dwOf ops (Region.before ops) i).kind = kdOf ops i := rfl
  have hko : kdOf ops i = kindOf o.op := by unfold kdOf; rw [ho]; rfl
  have hHn := R.t.H_eq (i := i + 1) (by omega)
  have hund : VR ρ ω undefV undef := .tup [] [] .nil
  have some_op : ∀ {x : COp}, (C i).op = x → x ≠ .bad → cOp P N (ownS S ops o) ⟨[], 0⟩ o.op = some x := by
    intro x hx hb
    cases hq : cOp P N (ownS S ops o) ⟨[], 0⟩ o.op with
    | none => rw [hq] at hcop; rw [hcop] at hx; exact absurd hx.symm hb
    | some y => rw [hq] at hcop; rw [hcop] at hx; rw [← hx]; rfl
  have nbad : ∀ {H v H'}, doOp call (C i).op [] (σ i).e H = .ok v H' → (C i).op ≠ .bad := by
    intro H v H' h e
    rw [e] at h
    cases h
  -- an operation that is carried out below the blocks that wait
  have below : ∀ {HS HS' : AH} {s' : Nat}, wants [] (σ i).e (C i).guard = .go → kdOf ops i ≠ 2 → (s' = if kdOf ops i = 3 then s + 1 else s) → Over (Kp ops C σ D s') (fun k => (σ k).ids) OB HS Ĥ → (∀ k, Kp ops C σ D s' k → HS.m.get .dead (σ k).ids = .dead) →
      HS' = HHs σ ops s' → doOp call (C i).op [] (σ i).e HS = .ok (V i) HS' →
      if Region.wanted o (yielded ops a.tmps) = true then o.wpIn (FF ro) 0 P a w K Q else (∀ f, o.about P w a.eval = some f → (FF ro).fn f) ∧ K (a.put o.dst undef) w := by
    intro HS HS' s' hw hk2 hs' hov hde hHS' hdo
    rw [if_pos (hgo hw)]
    refine op_wp R.hω R.hcall (hov.hr hde I.step.hr) hg henv CtxOk.start (some_op rfl (nbad hdo)) hdo fun ρ' v' w' hv hst => ?_
    subst hHS'
    obtain ⟨Ĥ', hI⟩ := act_next R I ho hn hpre (fun hm => hk2 hm.2.1) hs' hov hde hst hv
    exact hK _ _ _ _ _ hI
  have skipped : ∀ {HS : AH} {s' : Nat}, wants [] (σ i).e (C i).guard = .skip → (s' = if kdOf ops i = 3 then s + 1 else s) → Over (Kp ops C σ D s') (fun k => (σ k).ids) OB HS Ĥ → (∀ k, Kp ops C σ D s' k → HS.m.get .dead (σ k).ids = .dead) →
      HS = HHs σ ops s' → V i = undefV →
      if Region.wanted o (yielded ops a.tmps) = true then o.wpIn (FF ro) 0 P a w K Q else (∀ f, o.about P w a.eval = some f → (FF ro).fn f) ∧ K (a.put o.dst undef) w := by
    intro HS s' hw hs' hov hde hHS hV
    rw [if_neg (by rw [hskip hw]; simp)]
    refine ⟨fun _ _ => trivial, ?_⟩
    subst hHS
    obtain ⟨Ĥ', hI⟩ := act_next R I ho hn hpre (fun hm => by have := hm.2.2; rw [hw] at this; cases this) hs' hov hde (.refl (hov.hr hde I.step.hr)) (by rw [hV]; exact hund)
    exact hK _ _ _ _ _ hI
  have plain : ∀ k, Kp ops C σ D s k → (HHs σ ops s).m.get .dead (σ k).ids = .dead := fun k hk => I.dead k hk.1 hk.2.2
  have hf := R.t.fact i hi
  generalize hσ : σ (i + 1) = σ' at hf
  cases hf with
  | skip3 hw hk hv =>
    rw [hkd] at hk
    obtain ⟨o1, o2⟩ := absorb_over R I hi hn hpre hk
    refine skipped hw (by rw [if_pos hk]) o1 o2 ?_ hv
    rw [hσ, chN_succ3 hk, ← ready_chain R I hi hn hpre hk] at hHn
    exact hHn
  | skip hw hk hv =>
    rw [hkd] at hk
    exact skipped hw (by rw [if_neg hk]) I.over plain rfl hv
  | pure hw hk hv hb =>
    rw [hkd] at hk
    exact below hw (by omega) (by rw [if_neg (by omega)]) I.over plain rfl (pure_doOp hv hb _)
  | read hw hk hv hb =>
    rw [hkd] at hk
    obtain ⟨p1, p2⟩ := ready_place R I hi hn hpre (.inl hk)
    obtain ⟨r1, r2⟩ := R.t.read_at hi hk hw p1 p2
    refine below hw (by omega) (by rw [if_neg (by omega)]) I.over plain rfl (read_doOp ?_ r2 r1)
    rw [hko] at hk
    have hnb : (C i).op ≠ .bad := fun e => by rw [e] at hv; exact hb hv.symm
    have hcs := some_op rfl hnb
    rcases kindOf_read hk with ⟨t, x, hop⟩ | ⟨t, m, k, ok, hop⟩
    · rw [hop] at hcs
      simp only [cOp, Option.bind_eq_some_iff, Option.map_eq_some_iff] at hcs
      obtain ⟨ag, _, sz, _, c, _, he⟩ := hcs
      exact .inl ⟨ag, sz, c, he.symm⟩
    · rw [hop] at hcs
      simp only [cOp] at hcs
      split at hcs
      · split at hcs
        · simp only [Option.bind_eq_some_iff, Option.map_eq_some_iff] at hcs
          obtain ⟨z, _, cm, _, ck, _, he⟩ := hcs
          exact .inr ⟨z, ok, cm, ck, he.symm⟩
        · cases hcs
      · cases hcs
  | act hw hk hv =>
    rw [hkd] at hk
    obtain ⟨o1, o2⟩ := absorb_over R I hi hn hpre hk
    rw [hσ, chN_succ3 hk, ← ready_chain R I hi hn hpre hk] at hHn
    exact below hw (by omega) (by rw [if_pos hk]) o1 o2 hHn hv
  | make hw hk hv =>
    rw [hkd] at hk
    rw [if_pos (hgo hw)]
    have hm : Made ops C σ i := ⟨hi, hk, hw⟩
    obtain ⟨p1, p2⟩ := ready_place R I hi hn hpre (.inr hk)
    have hnb : (C i).op ≠ .bad := fun e => by rw [e] at hv; cases hv
    have hcs := some_op rfl hnb
    obtain ⟨sm, hrun, ob, lim, v', h1, h2⟩ := mkBlock_mk (w := w) R.hω hg henv CtxOk.start hcs (by rw [← hko]; exact hk) hv
    have hfr := I.free i hm hn
    obtain ⟨q1, q2, q3⟩ := h2 _ hfr _ _ hv
    refine ⟨fun _ _ => trivial, ?_⟩
    have hnd : ∀ c, o.op ≠ .defer c := by
      intro c h
      rw [h] at hcs
      simp only [cOp] at hcs
      cases hcs
    rw [Oper.semAt_eq _ _ _ hnd, hrun, Sem.run_bind, h1, Result.andThen_ok, Sem.run_pure, Oper.uponIn_value]
    have idr := R.t.id_range hm
    have hst := I.step.addAt hfr (Nat.lt_of_lt_of_le idr.2 I.nx) idr.1 rfl q3
    have hne : ∀ k, Made ops C σ k → k ≠ i → (σ k).ids ≠ (σ i).ids := fun k hkm hki e => hki (R.t.id_inj hkm hm e)
    refine hK _ _ _ _ _ (I.next R ho hn hpre (s' := s) (by rw [if_neg (by omega)]) (fun h3 => by omega) ?_ I.dead hst (sub_extAt hfr _) (Nat.le_refl _) (fun k hkm hki hnk => ?_) q2)
    · refine ⟨I.over.next, fun k hkk => ?_, fun id hid => ?_⟩
      · by_cases e : k = i
        · subst e; exact get_set_same _ _
        · rw [get_set_ne (Ne.symm (hne k hkk.1 e))]
          exact I.over.at_ k ⟨hkk.1, hkk.2.1.resolve_left e, hkk.2.2⟩
      · have : (σ i).ids ≠ id := hid i ⟨hm, .inl rfl, p2⟩
        rw [get_set_ne this]
        exact I.over.off id fun k hkk => hid k ⟨hkk.1, .inr hkk.2.1, hkk.2.2⟩
    · rw [ext_ne _ _ (hne k hkm hki)]
      exact I.free k hkm hnk

/-! ### all orders -/
theorem filter_lt {α : Type} {l : List α} {p q : α → Bool} (h : ∀ x, q x = true → p x = true) (hx : ∃ x ∈ l, p x = true ∧ q x = false) : (l.filter q).length < (l.filter p).length := by
  have le : ∀ (l : List α), (l.filter q).length ≤ (l.filter p).length := by
    intro l
    induction l with
    | nil => exact Nat.le_refl _
    | cons x l ih =>
      cases hq : q x with
      | true => rw [List.filter_cons_of_pos hq, List.filter_cons_of_pos (h x hq)]; simp only [List.length_cons]; omega
      | false =>
        rw [List.filter_cons_of_neg (by rw [hq]; simp)]
        cases hp : p x with
        | true => rw [List.filter_cons_of_pos hp]; simp only [List.length_cons]; omega
        | false => rw [List.filter_cons_of_neg (by rw [hp]; simp)]; exact ih
  induction l with
  | nil => obtain ⟨x, hx, _⟩ := hx; cases hx
  | cons y l ih =>
    obtain ⟨x, hx, h1, h2⟩ := hx
    rcases List.mem_cons.1 hx with rfl | hx
    · rw [List.filter_cons_of_neg (by rw [h2]; simp), List.filter_cons_of_pos h1]
      have := le l
      simp only [List.length_cons]; omega
    · have := ih ⟨x, hx, h1, h2⟩
      cases hq : q y with
      | true => rw [List.filter_cons_of_pos hq, List.filter_cons_of_pos (h y hq)]; simp only [List.length_cons]; omega
      | false =>
        rw [List.filter_cons_of_neg (by rw [hq]; simp)]
        cases hp : p y with
        | true => rw [List.filter_cons_of_pos hp]; simp only [List.length_cons]; omega
        | false => rw [List.filter_cons_of_neg (by rw [hp]; simp)]; exact this

theorem Din_set {listed : Array Bool} {i : Nat} (hi : i < listed.size) : Din (listed.setIfInBounds i true) = fun j => j = i ∨ Din listed j := by
  funext j
  refine propext ?_
  unfold Din
  by_cases h : i = j
  · subst h
    simp [Array.getD_eq_getD_getElem?, hi]
  · rw [getD_set_ne false h]
    constructor
    · exact .inr
    · rintro (rfl | h2)
      · exact absurd rfl h
      · exact h2

theorem getD_bool {listed : Array Bool} {i : Nat} (hi : i < listed.size) : listed.getD i true = listed.getD i false := by
  simp [Array.getD_eq_getD_getElem?, hi]

theorem any_ok (R : Reg P ω N S ops call C σ V OB ρ0 H0 a0 w0) {ro : Option Nat} {Q : Exit → Act → World → Prop} (hQ : ∀ {D ρ s Ĥ a w}, Inv P ω N ops C σ V OB ρ0 H0 a0 w0 D ρ s Ĥ a w → (∀ j, j < ops.size → D j) → Q .normal a w) :
    ∀ (fuel : Nat) (listed : Array Bool) {ρ : Pth → Option BI} {s : Nat} {Ĥ : AH} {a : Act} {w : World}, listed.size = ops.size → ((List.range ops.size).filter fun j => !(listed.getD j false)).length ≤ fuel →
      Inv P ω N ops C σ V OB ρ0 H0 a0 w0 (Din listed) ρ s Ĥ a w → wpAnyIn (FF ro) 0 P .any ops Q fuel listed a w := by
  have all_of : ∀ {listed : Array Bool}, listed.size = ops.size → Region.ready .any ops listed = [] → ∀ j, j < ops.size → Din listed j := by
    intro listed hsz hr j
    induction j using Nat.strongRecOn with
    | _ j ih =>
      intro hj
      cases hd : listed.getD j false with
      | true => exact hd
      | false =>
        have : j ∈ Region.ready .any ops listed := by
          rw [mem_ready]
          obtain ⟨o, ho⟩ : ∃ o, ops[j]? = some o := ⟨_, Array.getElem?_eq_getElem hj⟩
          refine ⟨by rw [getD_bool (by omega)]; exact hd, o, ho, fun e he hb => ?_⟩
          have hlt := R.t.w.back j o ho e he hb
          exact ih e.on hlt (by omega)
        rw [hr] at this
        cases this
  have ready_none : ∀ {listed : Array Bool}, listed.size = ops.size → ((List.range ops.size).filter fun j => !(listed.getD j false)).length = 0 → Region.ready .any ops listed = [] := by
    intro listed hsz h0
    cases hr : Region.ready .any ops listed with
    | nil => rfl
    | cons j r =>
      have hj : j ∈ Region.ready .any ops listed := by rw [hr]; exact List.mem_cons_self ..
      rw [mem_ready] at hj
      obtain ⟨h1, o, ho, _⟩ := hj
      have hlt := lt_of_some ho
      rw [getD_bool (by omega)] at h1
      have hm : j ∈ (List.range ops.size).filter fun j => !(listed.getD j false) := by
        rw [List.mem_filter]; exact ⟨List.mem_range.2 hlt, by rw [h1]; rfl⟩
      rw [List.length_eq_zero_iff.1 h0] at hm
      cases hm
  intro fuel
  induction fuel with
  | zero =>
    intro listed ρ s Ĥ a w hsz hle hI
    have hr := ready_none hsz (Nat.le_zero.1 hle)
    exact ⟨hr, hQ hI (all_of hsz hr)⟩
  | succ fuel ih =>
    intro listed ρ s Ĥ a w hsz hle hI
    refine ⟨fun hr => hQ hI (all_of hsz hr), fun i hir => ?_⟩
    obtain ⟨h1, o, ho, h2⟩ := mem_ready.1 hir
    have hi := lt_of_some ho
    rw [getD_bool (by omega)] at h1
    have hn : ¬ Din listed i := by unfold Din; rw [h1]; simp
    have hpre : ∀ j, j < ops.size → bitAt (Region.before ops) i j = true → Din listed j := by
      intro j hj hb
      obtain ⟨_, o', ho', e, he, hbi, hor⟩ := R.t.w.ahead i j hi hj hb
      rw [ho] at ho'; cases ho'
      rcases hor with rfl | hor
      · exact h2 e he hbi
      · have hlt := R.t.w.back i o ho e he hbi
        exact hI.closed e.on j (by omega) hj (h2 e he hbi) hor
    refine step_op R hI ho hn hpre fun ρ' s' Ĥ' a' w' hI' => ?_
    refine ih (listed.setIfInBounds i true) (by simp [hsz]) ?_ (by rw [Din_set (by omega)]; exact hI')
    have := filter_lt (l := List.range ops.size) (p := fun j => !(listed.getD j false)) (q := fun j => !((listed.setIfInBounds i true).getD j false)) (fun x hx => by
      by_cases e : i = x
      · subst e; simpa using h1
      · rw [getD_set_ne false e] at hx; exact hx) ⟨i, List.mem_range.2 hi, by rw [h1]; rfl, by
        have : (listed.setIfInBounds i true).getD i false = true := by simp [Array.getD_eq_getD_getElem?, show i < listed.size by omega]
        rw [this]; rfl⟩
    omega

theorem zipDw_get {b : Array Nat} {l : List CO} {k i : Nat} : (zipDw ops b k l)[i]? = (l[i]?).map fun c => (c, dwOf ops b (k + i)) := by
  induction l generalizing k i with
  | nil => simp [zipDw]
  | cons c l ih =>
    unfold zipDw
    cases i with
    | zero => simp
    | succ i =>
      simp only [List.getElem?_cons_succ, ih]
      rw [show k + 1 + i = k + (i + 1) by omega]

theorem cOpersD_get {os : List Oper} {l : List CO} (h : cOpersD P N S ops os = some l) : l.length = os.length ∧ ∀ (i : Nat) (o : Oper), os[i]? = some o → ∃ c : CO, l[i]? = some c ∧ cOperD P N S ops o = some c := by
  induction os generalizing l with
  | nil => simp only [cOpersD, Option.some.injEq] at h; subst h; exact ⟨rfl, fun i o h => by cases h⟩
  | cons o os ih =>
    simp only [cOpersD, Option.bind_eq_some_iff, Option.some.injEq] at h
    obtain ⟨c, h1, r, h2, rfl⟩ := h
    obtain ⟨h3, h4⟩ := ih h2
    refine ⟨by simp [h3], fun i o' ho' => ?_⟩
    cases i with
    | zero => simp only [List.getElem?_cons_zero, Option.some.injEq] at ho'; subst ho'; exact ⟨c, rfl, h1⟩
    | succ i => exact h4 i o' (by simpa using ho')

theorem kdOf_le (i : Nat) : kdOf ops i ≤ 3 := by
  unfold kdOf
  cases ops[i]? with
  | none => exact Nat.zero_le _
  | some o =>
    show kindOf o.op ≤ 3
    unfold kindOf
    split <;> first
      | decide
      | (split <;> decide)

theorem drawn_ok (hω : ∀ i, (ω i).oneCell' = true) (hm : P.follows .mixedOrders = true) : DrawnOk P ω := by
  intro call hcall N S id ops l ro base ρ H e a w hS hcomp hst hne
  unfold cRegD at hcomp
  simp only [Option.bind_eq_some_iff] at hcomp
  obtain ⟨l0, hl0, h2⟩ := hcomp
  cases hd : dwOk ops (Region.before ops) && dwOk2 ops (Region.before ops) with
  | false => rw [hd] at h2; cases h2
  | true =>
    rw [hd] at h2
    rw [Bool.and_eq_true] at hd
    simp only [cond, Option.some.injEq, CC.regd.injEq] at h2
    obtain ⟨g1, g2⟩ := cOpersD_get hl0
    have hlen : l.length = ops.size := by
      have : ∀ (k : Nat) (l0 : List CO), (zipDw ops (Region.before ops) k l0).length = l0.length := by
        intro k l0
        induction l0 generalizing k with
        | nil => rfl
        | cons c l0 ih => simp [zipDw, ih]
      rw [← h2, this, g1]; simp
    have hget : ∀ i o, ops[i]? = some o → ∃ c, l[i]? = some (c, dwOf ops (Region.before ops) i) ∧ cOperD P N S ops o = some c := by
      intro i o ho
      obtain ⟨c, c1, c2⟩ := g2 i o (by simpa using ho)
      refine ⟨c, ?_, c2⟩
      rw [← h2, zipDw_get, c1]
      simp
    have hkinds : ∀ x ∈ l, x.2.kind ≤ 3 := by
      intro x hx
      obtain ⟨i, hi⟩ := List.mem_iff_getElem?.1 hx
      have hlt : i < ops.size := by rw [← hlen]; exact (List.getElem?_eq_some_iff.1 hi).1
      obtain ⟨o, ho⟩ : ∃ o, ops[i]? = some o := ⟨_, Array.getElem?_eq_getElem hlt⟩
      obtain ⟨c, hc, _⟩ := hget i o ho
      rw [hi] at hc
      simp only [Option.some.injEq] at hc
      rw [hc]
      exact kdOf_le i
    obtain ⟨σ, V, OB, s1, s2, s3, s4⟩ := runD_seq l ⟨e, reserve l H, H.next, 0, [], [reserve l H], []⟩ hkinds hne
    have hout : runD call l e (reserve l H) H.next 0 [] [reserve l H] [] = .norm (σ l.length).e (absorbAll (σ l.length).pend (σ l.length).H) := s4
    rw [hout]
    rw [hlen] at s3 ⊢
    let C : Nat → CO := fun i => ((l[i]?).map Prod.fst).getD default
    have hC : ∀ i o, ops[i]? = some o → l[i]? = some (C i, dwOf ops (Region.before ops) i) ∧ cOperD P N S ops o = some (C i) := by
      intro i o ho
      obtain ⟨c, c1, c2⟩ := hget i o ho
      have : C i = c := by show ((l[i]?).map Prod.fst).getD default = c; rw [c1]; rfl
      rw [this]; exact ⟨c1, c2⟩
    have hfilt : (l.filter fun x => Nat.beq x.2.kind 2).length = n2 (kdOf ops) ops.size := by
      have hmap : l.map (fun x => x.2.kind) = (List.range ops.size).map (kdOf ops) := by
        apply List.ext_getElem?
        intro i
        by_cases hi : i < ops.size
        · obtain ⟨o, ho⟩ : ∃ o, ops[i]? = some o := ⟨_, Array.getElem?_eq_getElem hi⟩
          rw [List.getElem?_map, (hC i o ho).1, List.getElem?_map, List.getElem?_range hi]
          rfl
        · rw [List.getElem?_eq_none (by simp; omega), List.getElem?_eq_none (by simp; omega)]
      have h3 := congrArg (fun q => (q.filter fun k => Nat.beq k 2).length) hmap
      simp only [List.filter_map, List.length_map] at h3
      exact h3
    have t : Tr ops call C σ V OB H := {
      w := wok_of hd.1 hd.2
      fact := fun i hi => by
        obtain ⟨o, ho⟩ : ∃ o, ops[i]? = some o := ⟨_, Array.getElem?_eq_getElem hi⟩
        exact s2 i _ _ (hC i o ho).1
      s0 := by rw [s1]
      pend0 := by rw [s1]
      hs0 := by rw [s1]
      ids0 := by rw [s1]
      next0 := by rw [s1]; simp only; rw [reserve_next, hfilt]
      m0 := by rw [s1]; exact reserve_m l H
      chk := s3 }
    have R : Reg P ω N S ops call C σ V OB ρ H a w := ⟨hω, hcall, hS, t, fun i o ho => (hC i o ho).2, by rw [s1]; exact hst.env, hst.glob, hst.size, hst.hr⟩
    refine wpIn_region_any hm ?_
    have hH0 : (σ 0).H = HHs σ ops 0 := t.H_eq (Nat.zero_le _)
    have hgm : ∀ q, (σ 0).H.m.get .dead q = H.m.get .dead q := fun q => by rw [t.m0]
    have hnle : H.next.toNat ≤ (σ 0).H.next.toNat := by rw [t.next0]; omega
    have hnoD : ∀ j, ¬ Din (Array.replicate ops.size false) j := by
      intro j h
      unfold Din at h
      rw [Array.getD_eq_getD_getElem?] at h
      cases hq : (Array.replicate ops.size false)[j]? with
      | none => rw [hq] at h; cases h
      | some x =>
        rw [hq] at h
        have := Array.getElem?_replicate (n := ops.size) (v := false) (i := j)
        rw [this] at hq
        split at hq
        · cases hq; cases h
        · cases hq
    have hbig : ∀ k, H.next.toNat ≤ (σ k).ids.toNat → H.m.get .dead (σ k).ids = .dead ∧ ρ (σ k).ids = none := by
      intro k hk
      have hnone : ρ (σ k).ids = none := by
        cases hq : ρ (σ k).ids with
        | none => rfl
        | some x => have := hst.hr.fresh _ _ hq; omega
      refine ⟨dead_of_not_live fun hl => ?_, hnone⟩
      obtain ⟨x, hx, _⟩ := (hst.hr.ok _).lt hl
      rw [hnone] at hx; cases hx
    have hI : Inv P ω N ops C σ V OB ρ H a w (Din (Array.replicate ops.size false)) ρ 0 (σ 0).H a { w with drawn := w.drawn + 1 } := {
      top := Nat.zero_le _
      chain := fun j _ _ => ⟨fun h => absurd h (hnoD j), fun h => absurd h (Nat.not_lt_zero _)⟩
      closed := fun i j _ _ h => absurd h (hnoD i)
      over := ⟨by rw [hH0], fun k hk => absurd hk.2.1 (hnoD k), fun id _ => by rw [hH0]⟩
      dead := fun k hk _ => by rw [← hH0, hgm]; exact (hbig k (t.id_range hk).1).1
      step := {
        sub := .refl _
        hr := ⟨fun q => by rw [hgm]; exact hst.hr.drew.ok q, fun a b ia ib h1 h2 => by rw [hgm] at h1 h2; exact hst.hr.inj a b ia ib h1 h2, fun q i h => Nat.lt_of_lt_of_le (hst.hr.fresh q i h) hnle⟩
        os := rfl
        tape := rfl
        output := rfl
        size := Nat.le_refl _
        keep := fun _ _ _ => rfl
        img := fun b _ ⟨q, i, h1, h2, h3⟩ => ⟨q, i, by rw [← hgm]; exact h1, h2, h3⟩
        imgo := fun b _ ⟨q, i, h1, h2, h3⟩ => ⟨q, i, by rw [← hgm]; exact h1, h2, h3⟩
        next := hnle
        dom := fun _ _ h _ => h }
      nx := Nat.le_refl _
      free := fun k hk _ => (hbig k (t.id_range hk).1).2
      size := hst.size
      defers := rfl
      old := fun _ _ => rfl
      new := fun j _ _ _ _ h => absurd h (hnoD j) }
    refine any_ok R ?_ ops.size (Array.replicate ops.size false) (by simp) (by
      refine Nat.le_trans (List.length_filter_le ..) ?_
      simp) hI
    intro D ρ' s Ĥ a' w' I hall
    have hs : s = chN (kdOf ops) ops.size := by
      rcases Nat.lt_or_ge s (chN (kdOf ops) ops.size) with hlt | hge
      · obtain ⟨j, hj, hj3, hjc⟩ := chN_at hlt
        have := (I.chain j hj hj3).1 (hall j hj)
        omega
      · exact Nat.le_antisymm I.top hge
    have hHn := t.H_eq (Nat.le_refl ops.size)
    rw [← hs] at hHn
    obtain ⟨n1, n2'⟩ := absorbAll_get (σ ops.size).pend (σ ops.size).H
    have hstep : Step P ρ ω H w ρ' (absorbAll (σ ops.size).pend (σ ops.size).H) w' := by
      refine I.step.congr ?_ fun q => ?_
      · rw [n1, hHn]; exact I.over.next.symm
      · rcases n2' q with ⟨p, hp, hpid, hget⟩ | ⟨hno, hget⟩
        · obtain ⟨k, k1, k2, rfl, k4⟩ := (t.pend_iff (Nat.le_refl _) p).1 hp
          rw [hget, ← hpid]
          exact (I.over.at_ k ⟨k2, hall k k1, by rw [hs]; exact k4⟩).symm
        · rw [hget, hHn]
          refine (I.over.off q fun k hk e => ?_).symm
          exact hno ⟨hiOf ops (Region.before ops) k, (σ k).ids, OB k⟩ ((t.pend_iff (Nat.le_refl _) _).2 ⟨k, hk.1.1, hk.1, rfl, by rw [← hs]; exact hk.2.2⟩) e
    refine Post.norm hstep ⟨?_, I.size, hstep.hr, hst.glob.mono hstep.sub, by rw [I.defers]; exact hst.defs.step hstep, Nat.le_trans hst.base hstep.size⟩
    intro tt p hp
    obtain ⟨e1, e2⟩ := env_text R hp (Nat.le_refl _)
    by_cases hw : ∃ (j : Nat) (oj : Oper), ops[j]? = some oj ∧ oj.dst = some tt
    · obtain ⟨j, oj, hoj, hdj⟩ := hw
      have hj := lt_of_some hoj
      rw [e1 j oj hj hoj hdj]
      exact I.new j oj tt hoj hdj (hall j hj)
    · rw [e2 fun j oj _ h1 h2 => hw ⟨j, oj, h1, h2⟩, I.old tt fun j oj h1 h2 => absurd ⟨j, oj, h1, h2⟩ hw, s1]
      exact (hst.env tt p hp).mono hstep.sub

/-! ### the executor is right -/
theorem callF_sound {T : T8 CFn} (hω : ∀ i, (ω i).oneCell' = true) (hm : P.follows .mixedOrders = true) (hT : TabOk P ω T) {n f : Nat} {args : List AVal} {vals : List Value} {H : AH} {v : AVal} {H' : AH} {ρ : Pth → Option BI} {w : World}
    (h : callF T n (key f) args H = .ok v H') (hr : HR P ρ ω H w) (hg : GlobOk P ρ) (hv : All2 (VR ρ ω) args vals) :
    CallsIn Fence.wide 0 P f vals.toArray w fun | .returned v', w' => (∃ ρ', VR ρ' ω v v' ∧ Step P ρ ω H w ρ' H' w') | _, _ => False := by
  have hc : CallerOk P ω (caller T (exec T n)) := caller_ok hT (exec_ok hω hT (drawn_ok hω hm) n) (exec_bad n)
  have := hc h hr hg (.fnv f [] [] .nil) hv
  cases this with
  | fn f caps fn hf hn hb h =>
    rw [List.append_nil] at h
    exact h.mono fun e w' he => by cases e <;> exact he
end Go.Ex

namespace Go.Ex
open Go
variable {P : Program} {ρ ρ' : Pth → Option BI} {ω : Nat → Value} {H : AH} {w w' : World}

/-! ### comparisons -/
theorem eqVs_eq {l r : List AVal} (h : eqVs l r = true) : l = r := by
  induction l generalizing r with
  | nil => cases r with
    | nil => rfl
    | cons _ _ => cases h
  | cons a l ih => cases r with
    | nil => cases h
    | cons b r =>
      unfold eqVs at h
      rw [Bool.and_eq_true] at h
      rw [eqv_eq h.1, ih h.2]
theorem eqR_eq {x y : AVal} (h : eqR x y = true) : x = y := by
  unfold eqR at h
  split at h
  · rw [eqVs_eq h]
  · exact eqv_eq h

theorem lenR_eq (l : List (List AVal)) : lenR l = l.length := by
  induction l with
  | nil => rfl
  | cons a l ih => simp only [lenR, ih, List.length_cons]

theorem rowsEq_at {d : List AVal} {els : T8 (List AVal)} {l : List (List AVal)} : ∀ {j : Nat}, rowsEq d els j l = true → ∀ k r, l[k]? = some r → elem (j + k) d els = r := by
  induction l with
  | nil => intro j _ k r h; cases h
  | cons a l ih =>
    intro j h k r hk
    unfold rowsEq at h
    rw [Bool.and_eq_true] at h
    cases k with
    | zero => simp only [List.getElem?_cons_zero, Option.some.injEq] at hk; rw [← hk]; exact eqL_eq h.1
    | succ k =>
      have := ih h.2 k r (by simpa using hk)
      rw [← this]
      congr 1
      omega

theorem tree0_get {l : List (List AVal)} : ∀ {j : Nat} {t : T8 (List AVal)} (m : Nat), (tree0 j l t).get [] (key m) = if j ≤ m ∧ m < j + l.length then (l[m - j]?).getD [] else t.get [] (key m) := by
  induction l with
  | nil => intro j t m; simp only [tree0, List.length_nil]; rw [if_neg (by omega)]
  | cons r l ih =>
    intro j t m
    simp only [tree0]
    rw [ih]
    by_cases h : Nat.succ j ≤ m ∧ m < Nat.succ j + l.length
    · rw [if_pos h, if_pos (by simp only [List.length_cons]; omega), show m - j = (m - Nat.succ j) + 1 by omega, List.getElem?_cons_succ]
    · rw [if_neg h]
      by_cases hm : m = j
      · subst hm
        rw [get_put_same, if_pos (by simp), Nat.sub_self]; rfl
      · rw [get_put_ne _ _ (fun e => hm (key_inj e).symm), if_neg (by simp only [List.length_cons]; omega)]

theorem treeRows_get {θ : List (Pth × Pth)} {l : List (List AVal)} : ∀ {j : Nat} {t : T8 (List AVal)} (m : Nat), (treeRows θ j l t).get [] (key m) = if j ≤ m ∧ m < j + l.length then ren1s θ ((l[m - j]?).getD []) else t.get [] (key m) := by
  induction l with
  | nil => intro j t m; simp only [treeRows, List.length_nil]; rw [if_neg (by omega)]
  | cons r l ih =>
    intro j t m
    simp only [treeRows]
    rw [ih]
    by_cases h : Nat.succ j ≤ m ∧ m < Nat.succ j + l.length
    · rw [if_pos h, if_pos (by simp only [List.length_cons]; omega), show m - j = (m - Nat.succ j) + 1 by omega, List.getElem?_cons_succ]
    · rw [if_neg h]
      by_cases hm : m = j
      · subst hm
        rw [get_put_same, if_pos (by simp), Nat.sub_self]; rfl
      · rw [get_put_ne _ _ (fun e => hm (key_inj e).symm), if_neg (by simp only [List.length_cons]; omega)]

theorem orElse_nil (c : List AVal) : orElse [] c = c := by cases c <;> rfl

/-! ### objects that stand for one another -/
structure Sim (P : Program) (ω : Nat → Value) (o o' : AObj) : Prop where
  ok : ∀ {ρ : Pth → Option BI} {w : World} {id : Pth}, ObjOk P ρ ω w id o → ObjOk P ρ ω w id o'
  owned : owned o' = owned o
  live : live o' = live o
theorem Sim.refl (o : AObj) : Sim P ω o o := ⟨fun h => h, rfl, rfl⟩

theorem pairsEq_eq {l r : List (AVal × AVal)} (h : pairsEq l r = true) : l = r := by
  induction l generalizing r with
  | nil => cases r with
    | nil => rfl
    | cons _ _ => cases h
  | cons a l ih => cases r with
    | nil => cases h
    | cons b r =>
      obtain ⟨a1, a2⟩ := a
      obtain ⟨b1, b2⟩ := b
      unfold pairsEq at h
      simp only [Bool.and_eq_true] at h
      rw [eq1_eq h.1.1, eq1_eq h.1.2, ih h.2]

theorem tobj_sim {o : AObj} {t : TObj} (h : tobjEq o t = true) : Sim P ω o (obj0 t) := by
  cases o with
  | arr esz n d els =>
    cases t with
    | mp es => cases h
    | arr esz' rows =>
      simp only [tobjEq, Bool.and_eq_true] at h
      obtain ⟨h1, h2, h3⟩ := h
      have e1 := beq_true_iff.1 h1
      have e2 := beq_true_iff.1 h2
      subst e1
      refine ⟨?_, rfl, rfl⟩
      rintro ρ w id ⟨i, c, T, g1, g2, g3⟩
      refine ⟨i, c, T, g1, g2, ?_, g3.size, ?_⟩
      · have := g3.lim; rw [e2] at this; exact this
      · intro j hj
        obtain ⟨vs, k1, k2⟩ := g3.els j (by omega)
        refine ⟨vs, ?_, k2⟩
        have hjl : j < rows.length := by rw [← lenR_eq]; exact hj
        have hr : rows[j]? = some rows[j] := List.getElem?_eq_getElem hjl
        have he := rowsEq_at h3 j _ hr
        rw [Nat.zero_add] at he
        have h0 : elem j [] (tree0 0 rows .nil) = rows[j] := by
          unfold elem
          rw [orElse_nil, tree0_get, if_pos (by omega), Nat.sub_zero, hr]; rfl
        rw [h0, ← he]; exact k1
  | mp es =>
    cases t with
    | arr _ _ => cases h
    | mp es' =>
      have := pairsEq_eq h
      subst this
      exact .refl _
  | dead => cases h
  | lp _ _ _ _ _ => cases h
  | ro _ _ _ _ => cases h

theorem hasObjs_mem {H : AH} {l : List (Pth × TObj)} (h : hasObjs H l = true) : ∀ x ∈ l, tobjEq (H.m.get .dead x.1) x.2 = true := by
  induction l with
  | nil => intro x hx; cases hx
  | cons y l ih =>
    obtain ⟨c, t⟩ := y
    unfold hasObjs at h
    rw [Bool.and_eq_true] at h
    intro x hx
    rcases List.mem_cons.1 hx with rfl | hx
    · exact h.1
    · exact ih h.2 x hx

theorem putObjs_get (l : List (Pth × TObj)) (m : T8 AObj) (id : Pth) : (∃ t, (id, t) ∈ l ∧ (putObjs l m).get .dead id = obj0 t) ∨ ((∀ t, (id, t) ∉ l) ∧ (putObjs l m).get .dead id = m.get .dead id) := by
  induction l generalizing m with
  | nil => exact .inr ⟨fun _ h => (by cases h), rfl⟩
  | cons y l ih =>
    obtain ⟨c, t⟩ := y
    simp only [putObjs]
    rcases ih (m.put .dead (obj0 t) c) with ⟨t', h1, h2⟩ | ⟨h1, h2⟩
    · exact .inl ⟨t', List.mem_cons_of_mem _ h1, h2⟩
    · by_cases e : c = id
      · subst e
        exact .inl ⟨t, List.mem_cons_self .., h2.trans (get_put_same _ _ _ _)⟩
      · refine .inr ⟨fun t' h => ?_, h2.trans (get_put_ne _ _ e _)⟩
        rcases List.mem_cons.1 h with h | h
        · simp only [Prod.mk.injEq] at h; exact e h.1.symm
        · exact h1 t' h

theorem roHeap_next (p : Pth) (l : List (Pth × Nat × Nat × List AVal)) : (roHeap p l).next = p := by
  induction l with
  | nil => rfl
  | cons x l ih => obtain ⟨k, e, n, d⟩ := x; exact ih
theorem roHeap_get (p : Pth) (l : List (Pth × Nat × Nat × List AVal)) (id : Pth) : (∃ e n d, (id, e, n, d) ∈ l ∧ (roHeap p l).m.get .dead id = .ro e n d .nil) ∨ (roHeap p l).m.get .dead id = .dead := by
  induction l with
  | nil => exact .inr (get_nil _ _)
  | cons x l ih =>
    obtain ⟨k, e, n, d⟩ := x
    simp only [roHeap]
    by_cases h : k = id
    · subst h; rw [get_set_same]; exact .inl ⟨e, n, d, List.mem_cons_self .., rfl⟩
    · rw [get_set_ne h]
      rcases ih with ⟨e', n', d', h1, h2⟩ | h1
      · exact .inl ⟨e', n', d', List.mem_cons_of_mem _ h1, h2⟩
      · exact .inr h1
theorem hasRo_mem {H : AH} {l : List (Pth × Nat × Nat × List AVal)} (h : hasRo H l = true) : ∀ k e n d, (k, e, n, d) ∈ l → H.m.get .dead k = .ro e n d .nil := by
  induction l with
  | nil => intro k e n d hx; cases hx
  | cons y l ih =>
    obtain ⟨k0, e0, n0, d0⟩ := y
    unfold hasRo at h
    rw [Bool.and_eq_true] at h
    intro k e n d hx
    rcases List.mem_cons.1 hx with hx | hx
    · simp only [Prod.mk.injEq] at hx
      obtain ⟨rfl, rfl, rfl, rfl⟩ := hx
      have h1 := h.1
      split at h1
      · rename_i e' n' d' hq
        simp only [Bool.and_eq_true] at h1
        rw [hq, beq_true_iff.1 h1.1, beq_true_iff.1 h1.2.1, eqL_eq h1.2.2]
      · cases h1
    · exact ih h.2 k e n d hx

/-! ### a heap, and a part of it -/
structure Below (P : Program) (ω : Nat → Value) (H Hp : AH) : Prop where
  next : Hp.next = H.next
  sim : ∀ id, Hp.m.get .dead id = .dead ∨ Sim P ω (H.m.get .dead id) (Hp.m.get .dead id)

theorem HR.below {Hp : AH} (hr : HR P ρ ω H w) (hb : Below P ω H Hp) : HR P ρ ω Hp w where
  ok := fun id => by
    rcases hb.sim id with h | h
    · rw [h]; trivial
    · exact h.ok (hr.ok id)
  inj := fun a b ia ib ha hb' hab h1 h2 => by
    have ha' : owned (H.m.get .dead a) = true := by
      rcases hb.sim a with h | h
      · rw [h] at ha; cases ha
      · rw [← h.owned]; exact ha
    have hb'' : live (H.m.get .dead b) = true := by
      rcases hb.sim b with h | h
      · rw [h] at hb'; cases hb'
      · rw [← h.live]; exact hb'
    exact hr.inj a b ia ib ha' hb'' hab h1 h2
  fresh := fun id i h => by rw [hb.next]; exact hr.fresh id i h

/-- what is done to a part is done to the whole -/
theorem Step.frame {Hp H1 H' : AH} (hr : HR P ρ ω H w) (hb : Below P ω H Hp) (hs : Step P ρ ω Hp w ρ' H1 w') (hn : H'.next = H1.next)
    (hg : ∀ id, Sim P ω (H1.m.get .dead id) (H'.m.get .dead id) ∨ (H'.m.get .dead id = H.m.get .dead id ∧ owned (Hp.m.get .dead id) = false)) : Step P ρ ω H w ρ' H' w' := by
  have upO : ∀ id, owned (Hp.m.get .dead id) = true → owned (H.m.get .dead id) = true := fun id h => by
    rcases hb.sim id with h1 | h1
    · rw [h1] at h; cases h
    · rw [← h1.owned]; exact h
  have upL : ∀ id, live (Hp.m.get .dead id) = true → live (H.m.get .dead id) = true := fun id h => by
    rcases hb.sim id with h1 | h1
    · rw [h1] at h; cases h
    · rw [← h1.live]; exact h
  -- the rest: its blocks are none of those that may turn
  have rest : ∀ id, live (H.m.get .dead id) = true → owned (Hp.m.get .dead id) = false → ∀ i, ρ id = some i → ¬ ImgO ρ Hp i.blk := by
    rintro id hl ho i hi ⟨q, j, h1, h2, h3⟩
    have hne : q ≠ id := fun e => by subst e; rw [ho] at h1; cases h1
    exact hr.inj q id j i (upO q h1) hl hne h2 hi h3
  have at_ : ∀ id, live (H.m.get .dead id) = true → ∃ i, ρ id = some i ∧ ρ' id = some i ∧ i.blk < w.heap.size := fun id hl => by
    obtain ⟨i, h1, h2⟩ := (hr.ok id).lt hl
    exact ⟨i, h1, hs.sub _ _ h1, h2⟩
  exact {
    sub := hs.sub
    hr := {
      ok := fun id => by
        rcases hg id with h | ⟨h, ho⟩
        · exact h.ok (hs.hr.ok id)
        · rw [h]
          by_cases hl : live (H.m.get .dead id) = true
          · obtain ⟨i, h1, h2, h3⟩ := at_ id hl
            refine ObjOk.mono hs.sub (fun j hj => ?_) (hr.ok id)
            rw [h1] at hj; cases hj
            exact hs.keep _ h3 (rest id hl ho i h1)
          · rw [dead_of_not_live hl]; trivial
      inj := fun a b ia ib hoa hlb hab ha hb' e => by
        rcases hg a with h1 | ⟨h1, o1⟩
        · rw [h1.owned] at hoa
          rcases hg b with h2 | ⟨h2, o2⟩
          · rw [h2.live] at hlb
            exact hs.hr.inj a b ia ib hoa hlb hab ha hb' e
          · rw [h2] at hlb
            obtain ⟨i, g1, g2, g3⟩ := at_ b hlb
            rw [g2] at hb'; cases hb'
            exact rest b hlb o2 ib g1 (hs.imgo _ g3 ⟨a, ia, hoa, ha, e⟩)
        · rw [h1] at hoa
          obtain ⟨i, g1, g2, g3⟩ := at_ a (live_of_owned hoa)
          rw [g2] at ha; cases ha
          rcases hg b with h2 | ⟨h2, o2⟩
          · rw [h2.live] at hlb
            obtain ⟨q, j, q1, q2, q3⟩ := hs.img _ g3 ⟨b, ib, hlb, hb', e.symm⟩
            have hne : a ≠ q := fun e => by
              subst e
              rcases hb.sim a with h | h
              · rw [h] at q1; cases q1
              · rw [h.owned, hoa] at o1; cases o1
            exact hr.inj a q ia j hoa (upL q q1) hne g1 q2 q3.symm
          · rw [h2] at hlb
            obtain ⟨j, k1, k2, k3⟩ := at_ b hlb
            rw [k2] at hb'; cases hb'
            exact hr.inj a b ia ib hoa hlb hab g1 k1 e
      fresh := fun id i h => by rw [hn]; exact hs.hr.fresh id i h }
    os := hs.os
    tape := hs.tape
    output := hs.output
    size := hs.size
    keep := fun b hb' hni => hs.keep b hb' fun ⟨id, i, h1, h2, h3⟩ => hni ⟨id, i, upO id h1, h2, h3⟩
    img := fun b hb' ⟨id, i, h1, h2, h3⟩ => by
      rcases hg id with h | ⟨h, _⟩
      · rw [h.live] at h1
        obtain ⟨q, j, q1, q2, q3⟩ := hs.img b hb' ⟨id, i, h1, h2, h3⟩
        exact ⟨q, j, upL q q1, q2, q3⟩
      · rw [h] at h1
        obtain ⟨j, k1, k2, k3⟩ := at_ id h1
        rw [k2] at h2; cases h2
        exact ⟨id, i, h1, k1, h3⟩
    imgo := fun b hb' ⟨id, i, h1, h2, h3⟩ => by
      rcases hg id with h | ⟨h, _⟩
      · rw [h.owned] at h1
        obtain ⟨q, j, q1, q2, q3⟩ := hs.imgo b hb' ⟨id, i, h1, h2, h3⟩
        exact ⟨q, j, upO q q1, q2, q3⟩
      · rw [h] at h1
        obtain ⟨j, k1, k2, k3⟩ := at_ id (live_of_owned h1)
        rw [k2] at h2; cases h2
        exact ⟨id, i, h1, k1, h3⟩
    next := by rw [hn, ← hb.next]; exact hs.next
    dom := fun id i h hl => hs.dom id i h (by rw [hb.next]; exact hl) }

theorem isRes_some {o : Orc} {r : R} (h : isRes o r = true) : ∃ H1, r = .ok o.v H1 ∧ hasObjs H1 o.objs = true ∧ ∀ p pre p', o.ex = some (p, pre, p') → H1.next = p' := by
  cases r with
  | no => cases h
  | ok v H1 =>
    simp only [isRes, Bool.and_eq_true] at h
    obtain ⟨h1, h2, h3⟩ := h
    rw [eqR_eq h1]
    refine ⟨H1, rfl, h2, fun p pre p' he => ?_⟩
    rw [he] at h3
    exact pthEq_iff.1 h3

/-- the keys of the one list are among those of the other -/
def keysIn (l r : List (Pth × TObj)) : Bool := l.all fun x => r.any fun y => pthEq x.1 y.1

/-- a call with arguments that lead somewhere -/
theorem orc_ex {T : T8 CFn} (hω : ∀ i, (ω i).oneCell' = true) (hm : P.follows .mixedOrders = true) (hT : TabOk P ω T) {n f : Nat} {o : Orc} {q p p' : Pth} {pre : List (Pth × TObj)} (hex : o.ex = some (p, pre, p'))
    (hk : keysIn pre o.objs = true) (hres : isRes o (callF T n (key f) o.args (preHeap q o)) = true) : OrcOk P ω f o := by
  intro args H v H' ρ w vals hfit hgive hr hg hv
  simp only [fits, hex, Bool.and_eq_true] at hfit
  obtain ⟨h1, h2, h3, h4⟩ := hfit
  simp only [give, hex, R.ok.injEq] at hgive
  obtain ⟨rfl, rfl⟩ := hgive
  have ha := eqVs_eq h1
  subst ha
  have hp := pthEq_iff.1 h3
  obtain ⟨H1, hcall, hobjs, hnext⟩ := isRes_some hres
  have hpre : preHeap q o = ⟨p, putObjs pre (roHeap p o.ro).m⟩ := by unfold preHeap; rw [hex]
  rw [hpre] at hcall
  have hb : Below P ω H ⟨p, putObjs pre (roHeap p o.ro).m⟩ := by
    refine ⟨hp.symm, fun id => ?_⟩
    rcases putObjs_get pre (roHeap p o.ro).m id with ⟨t, g1, g2⟩ | ⟨g1, g2⟩
    · right
      show Sim P ω _ ((putObjs pre (roHeap p o.ro).m).get .dead id)
      rw [g2]
      exact tobj_sim (hasObjs_mem h4 _ g1)
    · show (putObjs pre (roHeap p o.ro).m).get .dead id = .dead ∨ Sim P ω _ ((putObjs pre (roHeap p o.ro).m).get .dead id)
      rw [g2]
      rcases roHeap_get p o.ro id with ⟨e, n, d, k1, k2⟩ | k1
      · right; rw [k2, hasRo_mem h2 _ _ _ _ k1]; exact .refl _
      · left; exact k1
  have hc : CallerOk P ω (caller T (exec T n)) := caller_ok hT (exec_ok hω hT (drawn_ok hω hm) n) (exec_bad n)
  have hco := hc hcall (hr.below hb) hg (.fnv f [] [] .nil) hv
  cases hco with
  | fn f caps fn hf hn hbd h =>
    rw [List.append_nil] at h
    refine ⟨fn, hf, hn, hbd, h.mono fun e w' he => ?_⟩
    cases e with
    | panicked c => exact he.elim
    | outgrown => exact he.elim
    | returned v' =>
      obtain ⟨ρ', hv', hs⟩ := he
      refine ⟨ρ', hv', hs.frame hr hb (hnext p pre p' hex).symm fun id => ?_⟩
      rcases putObjs_get o.objs H.m id with ⟨t, g1, g2⟩ | ⟨g1, g2⟩
      · left
        show Sim P ω _ ((putObjs o.objs H.m).get .dead id)
        rw [g2]
        exact tobj_sim (hasObjs_mem hobjs _ g1)
      · right
        refine ⟨g2, ?_⟩
        show owned ((putObjs pre (roHeap p o.ro).m).get .dead id) = false
        rcases putObjs_get pre (roHeap p o.ro).m id with ⟨t, k1, k2⟩ | ⟨k1, k2⟩
        · exfalso
          simp only [keysIn, List.all_eq_true, List.any_eq_true] at hk
          obtain ⟨y, y1, y2⟩ := hk _ k1
          have : id = y.1 := pthEq_iff.1 y2
          exact g1 y.2 (by rw [this]; exact y1)
        · rw [k2]
          rcases roHeap_get p o.ro id with ⟨e, n, d, r1, r2⟩ | r1
          · rw [r2]; rfl
          · rw [r1]; rfl
end Go.Ex

namespace Go.Ex
open Go
variable {P : Program} {ρ ρ' ρ1 : Pth → Option BI} {ω : Nat → Value} {H : AH} {w w' : World}

/-! ### values that lead nowhere -/
def flat1 : AVal → Bool
  | .int _ _ => true
  | .bool _ => true
  | _ => false
def flat2 : AVal → Bool
  | .agg l => l.all flat1
  | v => flat1 v
theorem VR.flat1 {x : AVal} {v : Value} (h : VR ρ ω x v) (hf : flat1 x = true) : VR ρ' ω x v := by
  cases h <;> first | (cases hf; done) | exact .int _ _ | exact .bool _
theorem VRs.flat1 {l : List AVal} {vs : List Value} (h : All2 (VR ρ ω) l vs) (hf : l.all Ex.flat1 = true) : All2 (VR ρ' ω) l vs := by
  induction h with
  | nil => exact .nil
  | cons h t ih =>
    simp only [List.all_cons, Bool.and_eq_true] at hf
    exact .cons (h.flat1 hf.1) (ih hf.2)
theorem VR.flat2 {x : AVal} {v : Value} (h : VR ρ ω x v) (hf : flat2 x = true) : VR ρ' ω x v := by
  cases h with
  | agg l vs h hc => exact .agg l vs (VRs.flat1 h hf) hc
  | int k n => exact .int k n
  | bool b => exact .bool b
  | _ => cases hf
theorem VRs.flat2 {l : List AVal} {vs : List Value} (h : All2 (VR ρ ω) l vs) (hf : l.all Ex.flat2 = true) : All2 (VR ρ' ω) l vs := by
  induction h with
  | nil => exact .nil
  | cons h t ih =>
    simp only [List.all_cons, Bool.and_eq_true] at hf
    exact .cons (h.flat2 hf.1) (ih hf.2)

/-! ### other names for the keys -/
/-- the new keys stand for the old ones -/
def Nam (θ : List (Pth × Pth)) (ρ1 ρ' : Pth → Option BI) : Prop := ∀ c a, lk θ c = some a → ρ' a = ρ1 c

theorem VR.ren1 {θ : List (Pth × Pth)} (hθ : Nam θ ρ1 ρ') {x : AVal} {v : Value} (h : VR ρ1 ω x v) : VR ρ' ω (ren1 θ x) v := by
  cases h with
  | bad v => exact .bad v
  | pnil => exact .pnil
  | se a c => exact .se a c
  | snil => exact .snil
  | fnil => exact .fnil
  | mnil => exact .mnil
  | opq i => exact .bad _
  | yld l i hi => exact .bad _
  | str s => exact .str s
  | map id i hi =>
    simp only [Ex.ren1]
    cases hl : lk θ id with
    | none => exact .bad _
    | some a => exact .map a i (by rw [hθ id a hl]; exact hi)
  | fnv f caps cs hcs =>
    cases hcs with
    | nil => exact .fnv f [] [] .nil
    | cons _ _ => exact .bad _
  | tup l vs h => exact .bad _
  | agg l vs h hc => exact .bad _
  | sg id off len esz cap i hi hl hr =>
    simp only [Ex.ren1]
    cases hk : lk θ id with
    | none => exact .bad _
    | some a => exact .sg a off len esz cap i (by rw [hθ id a hk]; exact hi) hl hr
  | sl id off len cap i hi =>
    simp only [Ex.ren1]
    cases hk : lk θ id with
    | none => exact .bad _
    | some a => exact .sl a off len cap i (by rw [hθ id a hk]; exact hi)
  | ptr id off i hi =>
    simp only [Ex.ren1]
    cases hk : lk θ id with
    | none => exact .bad _
    | some a => exact .ptr a off i (by rw [hθ id a hk]; exact hi)
  | bool b => exact .bool b
  | int k n => exact .int k n
theorem VRs.ren1 {θ : List (Pth × Pth)} (hθ : Nam θ ρ1 ρ') {l : List AVal} {vs : List Value} (h : All2 (VR ρ1 ω) l vs) : All2 (VR ρ' ω) (ren1s θ l) vs := by
  induction h with
  | nil => exact .nil
  | cons h t ih => exact .cons (h.ren1 hθ) ih
theorem VR.ren2 {θ : List (Pth × Pth)} (hθ : Nam θ ρ1 ρ') {x : AVal} {v : Value} (h : VR ρ1 ω x v) : VR ρ' ω (ren2 θ x) v := by
  cases h with
  | agg l vs h hc => exact .agg _ vs (VRs.ren1 hθ h) hc
  | bad v => exact VR.ren1 hθ (.bad v)
  | pnil => exact VR.ren1 hθ .pnil
  | se a c => exact VR.ren1 hθ (.se a c)
  | snil => exact VR.ren1 hθ .snil
  | fnil => exact VR.ren1 hθ .fnil
  | mnil => exact VR.ren1 hθ .mnil
  | opq i => exact VR.ren1 hθ (.opq i)
  | yld l i hi => exact VR.ren1 hθ (.yld l i hi)
  | str s => exact VR.ren1 hθ (.str s)
  | map id i hi => exact VR.ren1 hθ (.map id i hi)
  | fnv f caps cs hcs => exact VR.ren1 hθ (.fnv f caps cs hcs)
  | tup l vs h => exact VR.ren1 hθ (.tup l vs h)
  | sg id off len esz cap i hi hl hr => exact VR.ren1 hθ (.sg id off len esz cap i hi hl hr)
  | sl id off len cap i hi => exact VR.ren1 hθ (.sl id off len cap i hi)
  | ptr id off i hi => exact VR.ren1 hθ (.ptr id off i hi)
  | bool b => exact VR.ren1 hθ (.bool b)
  | int k n => exact VR.ren1 hθ (.int k n)
theorem VRs.ren2 {θ : List (Pth × Pth)} (hθ : Nam θ ρ1 ρ') {l : List AVal} {vs : List Value} (h : All2 (VR ρ1 ω) l vs) : All2 (VR ρ' ω) (ren2s θ l) vs := by
  induction h with
  | nil => exact .nil
  | cons h t ih => exact .cons (h.ren2 hθ) ih
theorem VR.ren3 {θ : List (Pth × Pth)} (hθ : Nam θ ρ1 ρ') {x : AVal} {v : Value} (h : VR ρ1 ω x v) : VR ρ' ω (ren3 θ x) v := by
  cases h with
  | tup l vs h => exact .tup _ vs (VRs.ren2 hθ h)
  | agg l vs h hc => exact VR.ren2 hθ (.agg l vs h hc)
  | bad v => exact VR.ren2 hθ (.bad v)
  | pnil => exact VR.ren2 hθ .pnil
  | se a c => exact VR.ren2 hθ (.se a c)
  | snil => exact VR.ren2 hθ .snil
  | fnil => exact VR.ren2 hθ .fnil
  | mnil => exact VR.ren2 hθ .mnil
  | opq i => exact VR.ren2 hθ (.opq i)
  | yld l i hi => exact VR.ren2 hθ (.yld l i hi)
  | str s => exact VR.ren2 hθ (.str s)
  | map id i hi => exact VR.ren2 hθ (.map id i hi)
  | fnv f caps cs hcs => exact VR.ren2 hθ (.fnv f caps cs hcs)
  | sg id off len esz cap i hi hl hr => exact VR.ren2 hθ (.sg id off len esz cap i hi hl hr)
  | sl id off len cap i hi => exact VR.ren2 hθ (.sl id off len cap i hi)
  | ptr id off i hi => exact VR.ren2 hθ (.ptr id off i hi)
  | bool b => exact VR.ren2 hθ (.bool b)
  | int k n => exact VR.ren2 hθ (.int k n)

/-- an object under its new key -/
theorem instO_ok {θ : List (Pth × Pth)} (hθ : Nam θ ρ1 ρ') {c a : Pth} (hc : ρ' a = ρ1 c) {o : AObj} {t : TObj} (ht : tobjEq o t = true) (h : ObjOk P ρ1 ω w c o) : ObjOk P ρ' ω w a (instO θ t) ∧ owned (instO θ t) = true := by
  cases o with
  | arr esz n d els =>
    cases t with
    | mp es => cases ht
    | arr esz' rows =>
      simp only [tobjEq, Bool.and_eq_true] at ht
      obtain ⟨h1, h2, h3⟩ := ht
      have e1 := beq_true_iff.1 h1
      have e2 := beq_true_iff.1 h2
      subst e1
      obtain ⟨i, cc, T, g1, g2, g3⟩ := h
      refine ⟨⟨i, cc, T, by rw [hc]; exact g1, g2, ?_, g3.size, ?_⟩, rfl⟩
      · have := g3.lim; rw [e2] at this; exact this
      · intro j hj
        obtain ⟨vs, k1, k2⟩ := g3.els j (by omega)
        refine ⟨vs, ?_, k2⟩
        have hjl : j < rows.length := by rw [← lenR_eq]; exact hj
        have hr : rows[j]? = some rows[j] := List.getElem?_eq_getElem hjl
        have he := rowsEq_at h3 j _ hr
        rw [Nat.zero_add] at he
        have h0 : elem j [] (treeRows θ 0 rows .nil) = ren1s θ rows[j] := by
          unfold elem
          rw [orElse_nil, treeRows_get, if_pos (by omega), Nat.sub_zero, hr]; rfl
        rw [h0, ← he]
        exact VRs.ren1 hθ k1
  | mp es =>
    cases t with
    | arr _ _ => cases ht
    | mp es' =>
      have := pairsEq_eq ht
      subst this
      obtain ⟨i, en, ck, g1, g2, g3⟩ := h
      refine ⟨⟨i, en, ck, by rw [hc]; exact g1, g2, ?_⟩, rfl⟩
      clear ht
      generalize en.toList = l at g3
      induction g3 with
      | nil => exact .nil
      | cons h t ih => exact .cons ⟨h.1.ren1 hθ, h.2.ren1 hθ⟩ ih
  | dead => cases ht
  | lp _ _ _ _ _ => cases ht
  | ro _ _ _ _ => cases ht

/-! ### the new keys -/
def rev : List (Pth × Pth) → Pth → Option Pth
  | [], _ => none
  | (c, a) :: l, q => bif pthEq a q then some c else rev l q

theorem mkIds_ge {L : List (Pth × TObj)} : ∀ {p : Pth}, ∀ x ∈ mkIds L p, p.toNat ≤ x.2.toNat ∧ x.2.toNat < p.toNat + L.length := by
  induction L with
  | nil => intro p x hx; cases hx
  | cons y L ih =>
    obtain ⟨c, t⟩ := y
    intro p x hx
    rcases List.mem_cons.1 hx with rfl | hx
    · simp only [List.length_cons]; omega
    · have := ih x hx
      rw [Pth.toNat_succ] at this
      simp only [List.length_cons]
      omega
theorem rev_mem {θ : List (Pth × Pth)} {q c : Pth} (h : rev θ q = some c) : (c, q) ∈ θ := by
  induction θ with
  | nil => cases h
  | cons x θ ih =>
    obtain ⟨c0, a0⟩ := x
    unfold rev at h
    cases hb : pthEq a0 q with
    | true => rw [hb] at h; simp only [cond, Option.some.injEq] at h; rw [← pthEq_iff.1 hb, h]; exact List.mem_cons_self ..
    | false => rw [hb] at h; exact List.mem_cons_of_mem _ (ih h)
theorem lk_mem {θ : List (Pth × Pth)} {q a : Pth} (h : lk θ q = some a) : (q, a) ∈ θ := by
  induction θ with
  | nil => cases h
  | cons x θ ih =>
    obtain ⟨c0, a0⟩ := x
    unfold lk at h
    cases hb : pthEq c0 q with
    | true => rw [hb] at h; simp only [cond, Option.some.injEq] at h; rw [← pthEq_iff.1 hb, h]; exact List.mem_cons_self ..
    | false => rw [hb] at h; exact List.mem_cons_of_mem _ (ih h)
theorem rev_of_mem {L : List (Pth × TObj)} : ∀ {p : Pth} {c a : Pth}, (c, a) ∈ mkIds L p → rev (mkIds L p) a = some c := by
  induction L with
  | nil => intro p c a h; cases h
  | cons y L ih =>
    obtain ⟨c0, t⟩ := y
    intro p c a h
    simp only [mkIds] at h ⊢
    unfold rev
    rcases List.mem_cons.1 h with h | h
    · simp only [Prod.mk.injEq] at h
      obtain ⟨rfl, rfl⟩ := h
      rw [pthEq_iff.2 rfl]; rfl
    · have hne : pthEq p a = false := by
        cases hb : pthEq p a with
        | false => rfl
        | true =>
          have := (mkIds_ge _ h).1
          rw [Pth.toNat_succ, pthEq_iff.1 hb] at this
          simp only at this
          omega
      rw [hne]
      exact ih h
theorem mkIds_objs {L : List (Pth × TObj)} : ∀ {p : Pth} {c a : Pth}, (c, a) ∈ mkIds L p → ∃ t, (c, t) ∈ L := by
  induction L with
  | nil => intro p c a h; cases h
  | cons y L ih =>
    obtain ⟨c0, t⟩ := y
    intro p c a h
    rcases List.mem_cons.1 h with h | h
    · simp only [Prod.mk.injEq] at h; rw [h.1]; exact ⟨t, List.mem_cons_self ..⟩
    · obtain ⟨t', h'⟩ := ih h; exact ⟨t', List.mem_cons_of_mem _ h'⟩

theorem addAll_get (θ : List (Pth × Pth)) : ∀ (L : List (Pth × TObj)) (H : AH), (addAll θ L H).next.toNat = H.next.toNat + L.length ∧
    ∀ id, (∃ c t, (c, id) ∈ mkIds L H.next ∧ (c, t) ∈ L ∧ (addAll θ L H).m.get .dead id = instO θ t) ∨ ((∀ c, (c, id) ∉ mkIds L H.next) ∧ (addAll θ L H).m.get .dead id = H.m.get .dead id) := by
  intro L
  induction L with
  | nil => intro H; exact ⟨rfl, fun id => .inr ⟨fun _ h => (by cases h), rfl⟩⟩
  | cons y L ih =>
    obtain ⟨c0, t0⟩ := y
    intro H
    simp only [addAll]
    obtain ⟨h1, h2⟩ := ih (H.add (instO θ t0))
    have hn : (H.add (instO θ t0)).next = H.next.succ := rfl
    rw [hn] at h1 h2
    refine ⟨by rw [h1, Pth.toNat_succ, List.length_cons]; omega, fun id => ?_⟩
    rcases h2 id with ⟨c, t, g1, g2, g3⟩ | ⟨g1, g2⟩
    · exact .inl ⟨c, t, List.mem_cons_of_mem _ g1, List.mem_cons_of_mem _ g2, g3⟩
    · by_cases e : H.next = id
      · subst e
        exact .inl ⟨c0, t0, List.mem_cons_self .., List.mem_cons_self .., g2.trans (get_add_same _)⟩
      · refine .inr ⟨fun c h => ?_, g2.trans (get_add_ne e _)⟩
        rcases List.mem_cons.1 h with h | h
        · simp only [Prod.mk.injEq] at h; exact e h.2.symm
        · exact g1 c h

/-- the keys of a list differ -/
def keysDiff : List (Pth × TObj) → Bool
  | [] => true
  | (c, _) :: l => (l.all fun x => !pthEq c x.1) && keysDiff l
theorem mkIds_inj {L : List (Pth × TObj)} (hd : keysDiff L = true) : ∀ {p : Pth} {c a b : Pth}, (c, a) ∈ mkIds L p → (c, b) ∈ mkIds L p → a = b := by
  induction L with
  | nil => intro p c a b h; cases h
  | cons y L ih =>
    obtain ⟨c0, t⟩ := y
    simp only [keysDiff, Bool.and_eq_true, List.all_eq_true] at hd
    have no : ∀ {p : Pth} {a : Pth}, (c0, a) ∉ mkIds L p := fun {p a} h => by
      obtain ⟨t', h'⟩ := mkIds_objs h
      have := hd.1 _ h'
      rw [pthEq_iff.2 rfl] at this
      cases this
    intro p c a b h1 h2
    rcases List.mem_cons.1 h1 with k1 | k1
    · simp only [Prod.mk.injEq] at k1
      rcases List.mem_cons.1 h2 with k2 | k2
      · simp only [Prod.mk.injEq] at k2; rw [k1.2, k2.2]
      · rw [k1.1] at k2; exact absurd k2 no
    · rcases List.mem_cons.1 h2 with k2 | k2
      · simp only [Prod.mk.injEq] at k2
        rw [k2.1] at k1; exact absurd k1 no
      · exact ih hd.2 k1 k2
theorem keysDiff_one {L : List (Pth × TObj)} (hd : keysDiff L = true) {c : Pth} {t t' : TObj} (h1 : (c, t) ∈ L) (h2 : (c, t') ∈ L) : t = t' := by
  induction L with
  | nil => cases h1
  | cons y L ih =>
    obtain ⟨c0, t0⟩ := y
    simp only [keysDiff, Bool.and_eq_true, List.all_eq_true] at hd
    have no : ∀ {t}, (c0, t) ∉ L := fun {t} h => by
      have := hd.1 _ h
      rw [pthEq_iff.2 rfl] at this
      cases this
    rcases List.mem_cons.1 h1 with k1 | k1
    · simp only [Prod.mk.injEq] at k1
      rcases List.mem_cons.1 h2 with k2 | k2
      · simp only [Prod.mk.injEq] at k2; rw [k1.2, k2.2]
      · rw [k1.1] at k2; exact absurd k2 no
    · rcases List.mem_cons.1 h2 with k2 | k2
      · simp only [Prod.mk.injEq] at k2
        rw [k2.1] at k1; exact absurd k1 no
      · exact ih hd.2 k1 k2

/-- the tables are such as can be looked at from anywhere -/
def roFlat (q : Pth) (l : List (Pth × Nat × Nat × List AVal)) : Bool := l.all fun x => Nat.blt x.1.toNat q.toNat && x.2.2.2.all flat1

/-- a call with arguments that lead nowhere -/
theorem orc_rel {T : T8 CFn} (hω : ∀ i, (ω i).oneCell' = true) (hm : P.follows .mixedOrders = true) (hT : TabOk P ω T) {n f : Nat} {o : Orc} {q : Pth} (hq : q = key P.globals.size) (hex : o.ex = none)
    (hk : (o.args.all flat2 && (roFlat q o.ro && keysDiff o.objs)) = true) (hres : isRes o (callF T n (key f) o.args (preHeap q o)) = true) : OrcOk P ω f o := by
  intro args H v H' ρ w vals hfit hgive hr hg hv
  simp only [fits, hex, Bool.and_eq_true, and_true] at hfit
  obtain ⟨h1, h2⟩ := hfit
  simp only [give, hex, R.ok.injEq] at hgive
  obtain ⟨rfl, rfl⟩ := hgive
  have ha := eqVs_eq h1
  subst ha
  simp only [Bool.and_eq_true] at hk
  obtain ⟨hflat, hro, hdiff⟩ := hk
  obtain ⟨H1, hcall, hobjs, _⟩ := isRes_some hres
  have hpre : preHeap q o = roHeap q o.ro := by unfold preHeap; rw [hex]
  rw [hpre] at hcall
  let ρc : Pth → Option BI := fun id => if id.toNat < q.toNat then ρ id else none
  have hρc : ∀ id i, ρc id = some i → ρ id = some i ∧ id.toNat < q.toNat := fun id i h => by
    simp only [ρc] at h
    by_cases hl : id.toNat < q.toNat
    · rw [if_pos hl] at h; exact ⟨h, hl⟩
    · rw [if_neg hl] at h; cases h
  have notO : ∀ id, owned ((roHeap q o.ro).m.get .dead id) = false := fun id => by
    rcases roHeap_get q o.ro id with ⟨e, n, d, k1, k2⟩ | k1
    · rw [k2]; rfl
    · rw [k1]; rfl
  have hrc : HR P ρc ω (roHeap q o.ro) w := by
    refine ⟨fun id => ?_, fun a b ia ib hoa => ?_, fun id i h => ?_⟩
    · rcases roHeap_get q o.ro id with ⟨e, n, d, k1, k2⟩ | k1
      · rw [k2]
        have h3 := hr.ok id
        rw [hasRo_mem h2 _ _ _ _ k1] at h3
        obtain ⟨i, c, T', fz, g1, g2, g3⟩ := h3
        simp only [roFlat, List.all_eq_true, Bool.and_eq_true] at hro
        have hx := hro _ k1
        simp only at hx
        have hlt : id.toNat < q.toNat := Nat.le_of_ble_eq_true hx.1
        refine ⟨i, c, T', fz, by simp only [ρc]; rw [if_pos hlt]; exact g1, g2, g3.lim, g3.size, fun j hj => ?_⟩
        obtain ⟨vs, m1, m2⟩ := g3.els j hj
        refine ⟨vs, VRs.flat1 m1 ?_, m2⟩
        rw [elem_nil, List.all_eq_true]
        exact fun y hy => hx.2 y hy
      · rw [k1]; trivial
    · rw [notO a] at hoa; cases hoa
    · rw [roHeap_next]; exact (hρc id i h).2
  have hgc : GlobOk P ρc := fun g hgl => by
    obtain ⟨i, x, y⟩ := hg g hgl
    refine ⟨i, ?_, y⟩
    simp only [ρc]
    rw [if_pos (by rw [hq, key_toNat, key_toNat]; exact hgl)]
    exact x
  have hc : CallerOk P ω (caller T (exec T n)) := caller_ok hT (exec_ok hω hT (drawn_ok hω hm) n) (exec_bad n)
  have hco := hc hcall hrc hgc (.fnv f [] [] .nil) (VRs.flat2 hv hflat)
  cases hco with
  | fn f caps fn hf hn hbd h =>
    rw [List.append_nil] at h
    refine ⟨fn, hf, hn, hbd, h.mono fun e w' he => ?_⟩
    cases e with
    | panicked c => exact he.elim
    | outgrown => exact he.elim
    | returned v' =>
      obtain ⟨ρ1, hv', hs⟩ := he
      have hno : ∀ b, ¬ ImgO ρc (roHeap q o.ro) b := by
        rintro b ⟨id, i, h1, _⟩
        rw [notO id] at h1; cases h1
      have same : ∀ b, b < w.heap.size → w'.heap[b]? = w.heap[b]? := fun b hb => hs.keep b hb (hno b)
      generalize hθ : mkIds o.objs H.next = θ
      let ρ' : Pth → Option BI := fun id => match rev θ id with
        | some c => ρ1 c
        | none => ρ id
      have rev_ge : ∀ {id c}, rev θ id = some c → H.next.toNat ≤ id.toNat ∧ id.toNat < H.next.toNat + o.objs.length := fun {id c} h => by
        have := rev_mem h
        rw [← hθ] at this
        exact mkIds_ge _ this
      have hnam : Nam θ ρ1 ρ' := by
        intro c a hl
        have hmem := lk_mem hl
        rw [← hθ] at hmem
        have : rev θ a = some c := by rw [← hθ]; exact rev_of_mem hmem
        simp only [ρ', this]
      have hsub : Sub ρ ρ' := fun id i h => by
        have hlt := hr.fresh id i h
        simp only [ρ']
        cases hrv : rev θ id with
        | none => exact h
        | some c => have := (rev_ge hrv).1; omega
      -- the objects' blocks are new
      have newb : ∀ {c t}, (c, t) ∈ o.objs → ∃ i, ρ1 c = some i ∧ w.heap.size ≤ i.blk ∧ owned (H1.m.get .dead c) = true ∧ i.blk < w'.heap.size := by
        intro c t hct
        have ht := hasObjs_mem hobjs _ hct
        simp only at ht
        have hown : owned (H1.m.get .dead c) = true := by
          cases ho : H1.m.get .dead c <;> rw [ho] at ht <;> first | rfl | (cases ht; done)
        obtain ⟨i, hi, hlt⟩ := (hs.hr.ok c).lt (live_of_owned hown)
        refine ⟨i, hi, ?_, hown, hlt⟩
        rcases Nat.lt_or_ge i.blk w.heap.size with hl | hge
        · exact absurd (hs.imgo _ hl ⟨c, i, hown, hi, rfl⟩) (hno _)
        · exact hge
      obtain ⟨nx, gt⟩ := addAll_get θ o.objs H
      rw [hθ] at gt
      have old : ∀ {id}, (∀ c, (c, id) ∉ θ) → rev θ id = none := fun {id} h => by
        cases hrv : rev θ id with
        | none => rfl
        | some c => exact absurd (rev_mem hrv) (h c)
      have blk_old : ∀ {id i}, live (H.m.get .dead id) = true → (∀ c, (c, id) ∉ θ) → ρ' id = some i → ρ id = some i ∧ i.blk < w.heap.size := by
        intro id i hl hno hi
        have : rev θ id = none := old hno
        simp only [ρ', this] at hi
        obtain ⟨j, hj, hlt⟩ := (hr.ok id).lt hl
        rw [hi] at hj; cases hj
        exact ⟨hi, hlt⟩
      have new_of : ∀ {c id t i}, (c, id) ∈ θ → (c, t) ∈ o.objs → ρ' id = some i → ρ1 c = some i ∧ w.heap.size ≤ i.blk ∧ owned (H1.m.get .dead c) = true := by
        intro c id t i hm ht hi
        have : rev θ id = some c := by rw [← hθ] at hm ⊢; exact rev_of_mem hm
        simp only [ρ', this] at hi
        obtain ⟨j, g1, g2, g3, _⟩ := newb ht
        rw [hi] at g1; cases g1
        exact ⟨hi, g2, g3⟩
      refine ⟨ρ', VR.ren3 hnam hv', ?_⟩
      exact {
        sub := hsub
        hr := {
          ok := fun id => by
            rcases gt id with ⟨c, t, g1, g2, g3⟩ | ⟨g1, g2⟩
            · rw [g3]
              have hrv : rev θ id = some c := by rw [← hθ] at g1 ⊢; exact rev_of_mem g1
              exact (instO_ok (P := P) (w := w') hnam (c := c) (a := id) (by simp only [ρ', hrv]) (hasObjs_mem hobjs _ g2) (hs.hr.ok c)).1
            · rw [g2]
              by_cases hl : live (H.m.get .dead id) = true
              · obtain ⟨j, hj, hlt⟩ := (hr.ok id).lt hl
                refine ObjOk.mono hsub (fun i hi => ?_) (hr.ok id)
                rw [hj] at hi; cases hi
                exact same _ hlt
              · rw [dead_of_not_live hl]; trivial
          inj := fun a b ia ib hoa hlb hab h1 h2 e => by
            rcases gt a with ⟨c, t, g1, g2, g3⟩ | ⟨g1, g2⟩
            · obtain ⟨m1, m2, m3⟩ := new_of g1 g2 h1
              rcases gt b with ⟨c', t', k1, k2, k3⟩ | ⟨k1, k2⟩
              · obtain ⟨n1, n2, n3⟩ := new_of k1 k2 h2
                have hne : c ≠ c' := fun e => by
                  subst e
                  rw [← hθ] at g1 k1
                  exact hab (mkIds_inj hdiff g1 k1)
                exact hs.hr.inj c c' ia ib m3 (live_of_owned n3) hne m1 n1 e
              · rw [k2] at hlb
                have := (blk_old hlb k1 h2).2
                omega
            · rw [g2] at hoa
              have ho := blk_old (live_of_owned hoa) g1 h1
              rcases gt b with ⟨c', t', k1, k2, k3⟩ | ⟨k1, k2⟩
              · obtain ⟨n1, n2, n3⟩ := new_of k1 k2 h2
                omega
              · rw [k2] at hlb
                exact hr.inj a b ia ib hoa hlb hab ho.1 (blk_old hlb k1 h2).1 e
          fresh := fun id i h => by
            rw [nx]
            simp only [ρ'] at h
            cases hrv : rev θ id with
            | some c => exact (rev_ge hrv).2
            | none =>
              rw [hrv] at h
              have := hr.fresh id i h
              omega }
        os := hs.os
        tape := hs.tape
        output := hs.output
        size := hs.size
        keep := fun b hb _ => same b hb
        img := fun b hb ⟨id, i, h1, h2, h3⟩ => by
          rcases gt id with ⟨c, t, g1, g2, g3⟩ | ⟨g1, g2⟩
          · have := (new_of g1 g2 h2).2.1; omega
          · rw [g2] at h1; exact ⟨id, i, h1, (blk_old h1 g1 h2).1, h3⟩
        imgo := fun b hb ⟨id, i, h1, h2, h3⟩ => by
          rcases gt id with ⟨c, t, g1, g2, g3⟩ | ⟨g1, g2⟩
          · have := (new_of g1 g2 h2).2.1; omega
          · rw [g2] at h1; exact ⟨id, i, h1, (blk_old (live_of_owned h1) g1 h2).1, h3⟩
        next := by rw [nx]; omega
        dom := fun id i h hl => by
          simp only [ρ'] at h
          cases hrv : rev θ id with
          | some c => have := (rev_ge hrv).1; omega
          | none => rw [hrv] at h; exact h }

/-- a table with more known beforehand -/
theorem TabOk.put {T : T8 CFn} (hT : TabOk P ω T) {f : Nat} {c : CFn} {os : List Orc} (hne : ∃ fn S A, P.funcs[f]? = some fn ∧ cFn P S A fn = some ⟨c.params, c.body, c.res, []⟩)
    (hos : ∀ o ∈ os, OrcOk P ω f o) : TabOk P ω (T.put noFn ⟨c.params, c.body, c.res, os⟩ (key f)) := by
  intro g
  by_cases h : f = g
  · subst h
    right
    obtain ⟨fn, S, A, h1, h2⟩ := hne
    rw [get_put_same]
    exact ⟨fn, S, A, h1, h2, hos⟩
  · rw [get_put_ne _ _ (fun e => h (key_inj e))]
    exact hT g
end Go.Ex

namespace Go.Ex
open Go
variable {P : Program} {ω : Nat → Value}

/-- a function, compiled -/
def Good (P : Program) (x : Nat × CFn) : Prop := ∃ fn S A, P.funcs[x.1]? = some fn ∧ cFn P S A fn = some x.2
def putL : List (Nat × CFn) → T8 CFn → T8 CFn
  | [], T => T
  | (f, c) :: l, T => putL l (T.put noFn c (key f))
theorem TabOk.nil : TabOk P ω .nil := fun _ => .inl (get_nil _ _)
theorem TabOk.putL {L : List (Nat × CFn)} (hL : ∀ x ∈ L, Good P x) : ∀ {T : T8 CFn}, TabOk P ω T → TabOk P ω (Ex.putL L T) := by
  induction L with
  | nil => intro T hT; exact hT
  | cons x L ih =>
    obtain ⟨f, c⟩ := x
    intro T hT
    refine ih (fun x hx => hL x (List.mem_cons_of_mem _ hx)) ?_
    obtain ⟨fn, S, A, h1, h2⟩ := hL (f, c) (List.mem_cons_self ..)
    simp only at h1 h2
    obtain ⟨_, _, _, _, _, _, _, _, _, hcf⟩ := cFn_some h2
    have horc : c.orc = [] := by rw [hcf]
    have hcc : { c with orc := [] } = c := by rw [hcf]
    intro g
    by_cases h : f = g
    · subst h
      right
      rw [get_put_same]
      refine ⟨fn, S, A, h1, ?_, fun o ho => ?_⟩
      · rw [h2, hcc]
      · rw [horc] at ho; cases ho
    · rw [get_put_ne _ _ (fun e => h (key_inj e))]
      exact hT g
theorem Good.some {f : Nat} {c : CFn} (h : Good P (f, c)) : ∃ fn S A, P.funcs[f]? = some fn ∧ cFn P S A fn = some ⟨c.params, c.body, c.res, []⟩ := by
  obtain ⟨fn, S, A, h1, h2⟩ := h
  simp only at h1 h2
  obtain ⟨_, _, _, _, _, _, _, _, _, hcf⟩ := cFn_some h2
  refine ⟨fn, S, A, h1, ?_⟩
  have hcc : (⟨c.params, c.body, c.res, []⟩ : CFn) = c := by rw [hcf]
  rw [h2, hcc]

theorem res_slow {T : T8 CFn} {n : Nat} {f : Pth} {o : Orc} {H : AH} (h : isRes o (callG T n f o.args H) = true) : isRes o (callF T n f o.args H) = true := by rw [← callG_eq]; exact h

/-- one thing more is known beforehand -/
theorem TabOk.rel {T : T8 CFn} (hω : ∀ i, (ω i).oneCell' = true) (hm : P.follows .mixedOrders = true) {q : Pth} (hq : q = key P.globals.size) (hT : TabOk P ω T) {n f : Nat} {o : Orc} (hex : o.ex = none)
    (hk : (o.args.all flat2 && (roFlat q o.ro && keysDiff o.objs)) = true) (hres : isRes o (callG T n (key f) o.args (preHeap q o)) = true) : OrcOk P ω f o :=
  orc_rel hω hm hT hq hex hk (res_slow hres)
theorem TabOk.exact {T : T8 CFn} (hω : ∀ i, (ω i).oneCell' = true) (hm : P.follows .mixedOrders = true) (hT : TabOk P ω T) {n f : Nat} {o : Orc} {q p p' : Pth} {pre : List (Pth × TObj)} (hex : o.ex = some (p, pre, p'))
    (hk : keysIn pre o.objs = true) (hres : isRes o (callG T n (key f) o.args (preHeap q o)) = true) : OrcOk P ω f o :=
  orc_ex hω hm hT hex hk (res_slow hres)

/-- the table at key 0, a program of two variables -/
theorem start_ok {cells : List AVal} {q : Pth} {w : World} {c : Array Value} {T : TypeId} {fz : Nat × Nat} {ms : List Nat} (hc : w.heap[0]? = some (.cells c T fz)) (hlen : c.size = cells.length) (hcells : ∀ (i : Nat) (x : AVal), cells[i]? = some x → ∃ k z, x = AVal.int k z ∧ c[i]? = some (Value.int k z))
    (hq : q = key ms.length) (hms : ms ≠ []) : ∃ ρ, HR P ρ ω ⟨q, .node (.ro cells.length 1 cells .nil) nil8⟩ w ∧ ∀ g, g < ms.length → ∃ i, ρ (key g) = some i ∧ i.blk = g ∧ i.base = 0 := by
  let ρ : Pth → Option BI := fun id => if id = key id.toNat ∧ id.toNat < ms.length then some ⟨id.toNat, 0, if id.toNat = 0 then cells.length else 0⟩ else none
  have hget : ∀ id, (T8.node (AObj.ro cells.length 1 cells .nil) nil8).get .dead id = if id = key 0 then .ro cells.length 1 cells .nil else .dead := by
    intro id
    cases id with
    | e => rfl
    | s d p =>
      rw [if_neg (by intro h; cases h)]
      simp only [T8.get, sel_nil8, get_nil]
  have hpos : 0 < ms.length := by cases ms with
    | nil => exact absurd rfl hms
    | cons _ _ => simp
  have h0 : ρ (key 0) = some ⟨0, 0, cells.length⟩ := by
    simp only [ρ, key_toNat]
    rw [if_pos ⟨trivial, hpos⟩]
    simp
  have lens : (c.toList).length = cells.length := by simpa using hlen
  refine ⟨ρ, ⟨fun id => ?_, fun a b ia ib ho => ?_, fun id i h => ?_⟩, fun g hg => ?_⟩
  · show ObjOk P ρ ω w id ((T8.node (AObj.ro cells.length 1 cells .nil) nil8).get .dead id)
    rw [hget]
    by_cases h : id = key 0
    · rw [if_pos h]
      subst h
      refine ⟨⟨0, 0, cells.length⟩, c, T, fz, h0, hc, by show 1 * cells.length ≤ cells.length; omega, by show 0 + cells.length ≤ c.size; omega, fun j hj => ?_⟩
      have : j = 0 := by omega
      subst this
      rw [elem_nil]
      refine ⟨c.toList, ?_, lens, ?_, fun k v hk => ?_⟩
      · have key2 : ∀ (l : List AVal) (r : List Value), l.length = r.length → (∀ (i : Nat) (x : AVal), l[i]? = some x → ∃ k z, x = AVal.int k z ∧ r[i]? = some (Value.int k z)) → All2 (VR ρ ω) l r := by
          intro l
          induction l with
          | nil => intro r hr _; cases r with
            | nil => exact .nil
            | cons _ _ => cases hr
          | cons a l ih =>
            intro r hr hall
            cases r with
            | nil => cases hr
            | cons b r =>
              obtain ⟨k, z, rfl, hb⟩ := hall 0 a rfl
              simp only [List.getElem?_cons_zero, Option.some.injEq] at hb
              subst hb
              exact .cons (.int k z) (ih r (by simpa using hr) fun i x hx => by
                have := hall (i + 1) x (by simpa using hx)
                simpa using this)
        exact key2 cells c.toList lens.symm fun i x hx => by
          obtain ⟨k, z, h1, h2⟩ := hcells i x hx
          exact ⟨k, z, h1, by simpa using h2⟩
      · intro v hv
        obtain ⟨i, hi⟩ := List.mem_iff_getElem?.1 hv
        have hlt : i < cells.length := by rw [← lens]; exact (List.getElem?_eq_some_iff.1 hi).1
        obtain ⟨k, z, _, h2⟩ := hcells i _ (List.getElem?_eq_getElem hlt)
        have : c.toList[i]? = some (.int k z) := by simpa using h2
        rw [hi] at this
        simp only [Option.some.injEq] at this
        rw [this]; rfl
      · show c[0 + 0 * cells.length + k]? = some v
        rw [show 0 + 0 * cells.length + k = k by omega]
        simpa using hk
    · rw [if_neg h]; trivial
  · have ho' : owned ((T8.node (AObj.ro cells.length 1 cells .nil) nil8).get .dead a) = true := ho
    rw [hget] at ho'
    by_cases h : a = key 0
    · rw [if_pos h] at ho'; cases ho'
    · rw [if_neg h] at ho'; cases ho'
  · show id.toNat < q.toNat
    rw [hq, key_toNat]
    simp only [ρ] at h
    by_cases hx : id = key id.toNat ∧ id.toNat < ms.length
    · exact hx.2
    · rw [if_neg hx] at h; cases h
  · refine ⟨⟨g, 0, if g = 0 then cells.length else 0⟩, ?_, rfl, rfl⟩
    simp only [ρ, key_toNat]
    rw [if_pos ⟨trivial, hg⟩]

/-- nothing that was there is turned where nothing is owned -/
theorem Step.kept {ρ ρ' : Pth → Option BI} {H H' : AH} {w w' : World} (hs : Step P ρ ω H w ρ' H' w') (hno : ∀ id, owned (H.m.get .dead id) = false) : ∀ b, b < w.heap.size → w'.heap[b]? = w.heap[b]? :=
  fun b hb => hs.keep b hb fun ⟨id, i, h1, _⟩ => by rw [hno id] at h1; cases h1
end Go.Ex

