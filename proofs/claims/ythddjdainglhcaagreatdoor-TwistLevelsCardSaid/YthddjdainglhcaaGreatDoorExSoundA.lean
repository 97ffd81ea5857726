/- Soundness of the executor against the model, a part of it. Conditions: stated at each theorem. -/
import Derived.Test.YthddjdainglhcaaGreatDoorExCore
import Derived.CallsIn
import Derived.Laws.CopyRow
import Derived.Laws.Cells
import Derived.Laws.Sem
import Derived.IntWalk
import Derived.Laws.Tables
import Derived.Great.BuildSlice
import Derived.Laws.StructEq
import Derived.RangeFuncRecord
import Derived.OrdersIn
namespace Go.Ex

/-! ### digits and keys -/
theorem Pth.toNat_succ (p : Pth) : p.succ.toNat = p.toNat + 1 := by
  induction p with
  | e => rfl
  | s d p ih => cases d <;> simp only [Pth.succ, Pth.toNat, D.toNat, ih] <;> omega

theorem D.toNat_of (r : Nat) (h : r < 8) : (D.of r).toNat = r := by
  match r, h with
  | 0, _ | 1, _ | 2, _ | 3, _ | 4, _ | 5, _ | 6, _ | 7, _ => rfl

theorem pathOf_toNat (f n : Nat) (h : n ≤ f) : (pathOf f n).toNat = n := by
  induction f generalizing n with
  | zero => have : n = 0 := by omega
            subst this; rfl
  | succ f ih =>
    unfold pathOf
    cases hb : Nat.beq n 0 with
    | true => simp only [cond]; rw [Nat.eq_of_beq_eq_true hb]; rfl
    | false =>
      have hn : n ≠ 0 := by intro e; subst e; cases hb
      simp only [cond, Pth.toNat]
      have h1 : Nat.div n 8 = n / 8 := rfl
      have h2 : Nat.mod n 8 = n % 8 := rfl
      rw [h1, h2, ih (n / 8) (by omega), D.toNat_of _ (by omega)]
      omega

theorem key_toNat (n : Nat) : (key n).toNat = n := pathOf_toNat n n (Nat.le_refl _)
theorem key_inj {a b : Nat} (h : key a = key b) : a = b := by rw [← key_toNat a, h, key_toNat]

theorem dEq_iff {a b : D} : dEq a b = true ↔ a = b := by cases a <;> cases b <;> simp [dEq]
theorem pthEq_iff {a b : Pth} : pthEq a b = true ↔ a = b := by
  induction a generalizing b with
  | e => cases b <;> simp [pthEq]
  | s d p ih => cases b with
    | e => simp [pthEq]
    | s d' q => simp [pthEq, dEq_iff, ih]

/-! ### trees -/
theorem sel_upd_same {β : Type} (c : C8 β) (x : β) (d : D) : sel (upd c x d) d = x := by cases d <;> rfl
theorem sel_upd_ne {β : Type} (c : C8 β) (x : β) {d d' : D} (h : d ≠ d') : sel (upd c x d) d' = sel c d' := by
  cases d <;> cases d' <;> first | exact absurd rfl h | rfl
theorem sel_nil8 {α : Type} (d : D) : sel (nil8 : C8 (T8 α)) d = .nil := by cases d <;> rfl

section tree
variable {α : Type} (z x : α)
theorem get_nil (p : Pth) : T8.get z p .nil = z := by cases p <;> rfl
theorem get_put_same (p : Pth) (t : T8 α) : T8.get z p (T8.put z x p t) = x := by
  induction p generalizing t with
  | e => cases t <;> rfl
  | s d p ih => cases t with
    | nil => simp only [T8.put, T8.get, sel_upd_same, ih]
    | node v c => simp only [T8.put, T8.get, sel_upd_same, ih]
theorem get_put_ne {p q : Pth} (h : p ≠ q) (t : T8 α) : T8.get z q (T8.put z x p t) = T8.get z q t := by
  induction p generalizing t q with
  | e => cases q with
    | e => exact absurd rfl h
    | s d q => cases t with
      | nil => simp only [T8.put, T8.get, sel_nil8, get_nil]
      | node v c => rfl
  | s d p ih => cases q with
    | e => cases t <;> rfl
    | s d' q =>
      by_cases hd : d = d'
      · subst hd
        have hpq : p ≠ q := fun e => h (by rw [e])
        cases t with
        | nil => simp only [T8.put, T8.get, sel_upd_same]; rw [ih hpq, get_nil]
        | node v c => simp only [T8.put, T8.get, sel_upd_same]; exact ih hpq _
      · cases t with
        | nil => simp only [T8.put, T8.get, sel_upd_ne _ _ hd, sel_nil8, get_nil]
        | node v c => simp only [T8.put, T8.get, sel_upd_ne _ _ hd]
end tree

/-! ### lists side by side -/
inductive All2 {α β : Type} (R : α → β → Prop) : List α → List β → Prop where
  | nil : All2 R [] []
  | cons {a b l r} (h : R a b) (t : All2 R l r) : All2 R (a :: l) (b :: r)

section all2
variable {α β : Type} {R R' : α → β → Prop}
theorem All2.length {l : List α} {r : List β} (h : All2 R l r) : l.length = r.length := by
  induction h with
  | nil => rfl
  | cons _ _ ih => simp [ih]
theorem All2.imp (hi : ∀ a b, R a b → R' a b) {l : List α} {r : List β} (h : All2 R l r) : All2 R' l r := by
  induction h with
  | nil => exact .nil
  | cons h _ ih => exact .cons (hi _ _ h) ih
theorem All2.get {l : List α} {r : List β} (h : All2 R l r) : ∀ (i : Nat) (a : α), l[i]? = some a → ∃ b, r[i]? = some b ∧ R a b := by
  induction h with
  | nil => intro i a h; cases h
  | cons h t ih =>
    intro i a ha
    cases i with
    | zero => simp only [List.getElem?_cons_zero, Option.some.injEq] at ha; subst ha; exact ⟨_, rfl, h⟩
    | succ i => simp only [List.getElem?_cons_succ] at ha ⊢; exact ih i a ha
theorem All2.get' {l : List α} {r : List β} (h : All2 R l r) : ∀ (i : Nat) (b : β), r[i]? = some b → ∃ a, l[i]? = some a ∧ R a b := by
  induction h with
  | nil => intro i a h; cases h
  | cons h t ih =>
    intro i a ha
    cases i with
    | zero => simp only [List.getElem?_cons_zero, Option.some.injEq] at ha; subst ha; exact ⟨_, rfl, h⟩
    | succ i => simp only [List.getElem?_cons_succ] at ha ⊢; exact ih i a ha
theorem All2.append {l l' : List α} {r r' : List β} (h : All2 R l r) (h' : All2 R l' r') : All2 R (l ++ l') (r ++ r') := by
  induction h with
  | nil => exact h'
  | cons h _ ih => exact .cons h ih
theorem All2.drop {l : List α} {r : List β} (h : All2 R l r) (n : Nat) : All2 R (l.drop n) (r.drop n) := by
  induction h generalizing n with
  | nil => simp; exact .nil
  | cons h t ih => cases n with
    | zero => exact .cons h t
    | succ n => simpa using ih n
theorem All2.take {l : List α} {r : List β} (h : All2 R l r) (n : Nat) : All2 R (l.take n) (r.take n) := by
  induction h generalizing n with
  | nil => simp; exact .nil
  | cons h t ih => cases n with
    | zero => simp; exact .nil
    | succ n => simp only [List.take_succ_cons]; exact .cons h (ih n)
/-- a list whose members all have a partner -/
theorem All2.of_each {l : List α} (h : ∀ a ∈ l, ∃ b, R a b) : ∃ r, All2 R l r := by
  induction l with
  | nil => exact ⟨[], .nil⟩
  | cons a l ih =>
    obtain ⟨b, hb⟩ := h a (by simp)
    obtain ⟨r, hr⟩ := ih fun x hx => h x (by simp [hx])
    exact ⟨b :: r, .cons hb hr⟩
end all2

/-! ### what an abstract value stands for -/
/-- where an abstract block lies: the block, its first cell, how many cells -/
structure BI where
  blk : Nat
  base : Nat
  lim : Nat

def Rho : Type := Pth → Option BI

inductive VR (ρ : Pth → Option BI) (ω : Nat → Value) : AVal → Value → Prop where
  | bad (v : Value) : VR ρ ω .bad v
  | pnil : VR ρ ω .pnil (.pointer none)
  | se (a : Addr) (cap : Nat) : VR ρ ω .se (.slice (some a) 0 cap)
  | snil : VR ρ ω .snil (.slice none 0 0)
  | fnil : VR ρ ω .fnil .nilFunc
  | mnil : VR ρ ω .mnil (.map none)
  | opq (i : Nat) : VR ρ ω (.opq i) (ω i)
  | yld (l : Pth) (i : BI) (h : ρ l = some i) : VR ρ ω (.yld l) (.func (.yield i.blk) #[] #[])
  | str (s : ByteArray) : VR ρ ω (.str s) (.string s)
  | map (id : Pth) (i : BI) (h : ρ id = some i) : VR ρ ω (.map id) (.map (some i.blk))
  | fnv (f : Nat) (caps : List AVal) (cs : List Value) (h : All2 (VR ρ ω) caps cs) : VR ρ ω (.fnv (key f) caps) (.func (.func f) #[] cs.toArray)
  | tup (l : List AVal) (vs : List Value) (h : All2 (VR ρ ω) l vs) : VR ρ ω (.tup l) (.tuple vs.toArray)
  | agg (l : List AVal) (vs : List Value) (h : All2 (VR ρ ω) l vs) (hc : ∀ v ∈ vs, v.oneCell' = true) : VR ρ ω (.agg l) (.agg vs.toArray)
  | sg (id : Pth) (off len esz cap : Nat) (i : BI) (h : ρ id = some i) (hl : len ≤ cap) (hr : off + cap * esz ≤ i.lim) :
      VR ρ ω (.sg id off len esz) (.slice (some ⟨i.blk, i.base + off, none⟩) len cap)
  | sl (id : Pth) (off len cap : Nat) (i : BI) (h : ρ id = some i) : VR ρ ω (.sl id off len cap) (.slice (some ⟨i.blk, i.base + off, none⟩) len cap)
  | ptr (id : Pth) (off : Nat) (i : BI) (h : ρ id = some i) : VR ρ ω (.ptr id off) (.pointer (some ⟨i.blk, i.base + off, none⟩))
  | bool (b : Bool) : VR ρ ω (.bool b) (.bool b)
  | int (k : IntKind) (n : Int) : VR ρ ω (.int k n) (.int k n)

def Sub (ρ ρ' : Pth → Option BI) : Prop := ∀ id i, ρ id = some i → ρ' id = some i
theorem Sub.refl (ρ : Pth → Option BI) : Sub ρ ρ := fun _ _ h => h
theorem Sub.trans {a b c : Pth → Option BI} (h : Sub a b) (h' : Sub b c) : Sub a c := fun id i x => h' id i (h id i x)

theorem VR.mono {ρ ρ' : Pth → Option BI} {ω : Nat → Value} (hs : Sub ρ ρ') {x : AVal} {v : Value} (h : VR ρ ω x v) : VR ρ' ω x v := by
  refine VR.rec (motive_1 := fun x v _ => VR ρ' ω x v) (motive_2 := fun l r _ => All2 (VR ρ' ω) l r)
    ?_ ?_ ?_ ?_ ?_ ?_ ?_ ?_ ?_ ?_ ?_ ?_ ?_ ?_ ?_ ?_ ?_ ?_ ?_ ?_ h
  · exact fun v => .bad v
  · exact .pnil
  · exact fun a c => .se a c
  · exact .snil
  · exact .fnil
  · exact .mnil
  · exact fun i => .opq i
  · exact fun l i h => .yld l i (hs _ _ h)
  · exact fun s => .str s
  · exact fun id i h => .map id i (hs _ _ h)
  · exact fun f caps cs _ ih => .fnv f caps cs ih
  · exact fun l vs _ ih => .tup l vs ih
  · exact fun l vs _ hc ih => .agg l vs ih hc
  · exact fun id off len esz cap i h hl hr => .sg id off len esz cap i (hs _ _ h) hl hr
  · exact fun id off len cap i h => .sl id off len cap i (hs _ _ h)
  · exact fun id off i h => .ptr id off i (hs _ _ h)
  · exact fun b => .bool b
  · exact fun k n => .int k n
  · exact .nil
  · exact fun _ _ h t => .cons h t
theorem VRs.mono {ρ ρ' : Pth → Option BI} {ω : Nat → Value} (hs : Sub ρ ρ') {l : List AVal} {r : List Value} (h : All2 (VR ρ ω) l r) : All2 (VR ρ' ω) l r :=
  h.imp fun _ _ x => x.mono hs
end Go.Ex

namespace Go.Ex
open Go

/-! ### the environment and the heap -/
def EnvOk (ρ : Pth → Option BI) (ω : Nat → Value) (S : List (Nat × Pth)) (e : T8 AVal) (tm : Array Value) : Prop :=
  ∀ t p, look S t = some p → VR ρ ω (e.get .bad p) (tm.getD t undef)

structure ArrOk (ρ : Pth → Option BI) (ω : Nat → Value) (c : Array Value) (i : BI) (esz n : Nat) (d : List AVal) (els : T8 (List AVal)) : Prop where
  lim : n * esz ≤ i.lim
  size : i.base + i.lim ≤ c.size
  els : ∀ j, j < n → ∃ vs, All2 (VR ρ ω) (elem j d els) vs ∧ vs.length = esz ∧ (∀ v ∈ vs, v.oneCell' = true) ∧ ∀ k v, vs[k]? = some v → c[i.base + j * esz + k]? = some v

section
variable (P : Program)

structure LoopOk (ρ : Pth → Option BI) (ω : Nat → Value) (ready : Bool) (env : T8 AVal) (ps : List Pth) (as bd : CC) (r : Loop) : Prop where
  ok : ∃ S A, slotsOk S = true ∧ EnvOk ρ ω S env r.tmps ∧ r.params.toList.mapM (look S) = some ps ∧ (r.params.all fun t => Nat.blt t r.tmps.size) = true ∧
    cCode P r.tmps.size S A r.assign = some as ∧ cCode P r.tmps.size S A r.body = some bd
  nor : noRange as = true ∧ noRange bd = true
  state : r.state = if ready then .ready else .busy
  pending : r.pending = none

def ObjOk (ρ : Pth → Option BI) (ω : Nat → Value) (w : World) (id : Pth) : AObj → Prop
  | .dead => True
  | .arr esz n d els => ∃ i c T, ρ id = some i ∧ w.heap[i.blk]? = some (.cells c T (0, 0)) ∧ ArrOk ρ ω c i esz n d els
  | .ro esz n d els => ∃ i c T fz, ρ id = some i ∧ w.heap[i.blk]? = some (.cells c T fz) ∧ ArrOk ρ ω c i esz n d els
  | .mp es => ∃ i ents clk, ρ id = some i ∧ w.heap[i.blk]? = some (.map ents clk) ∧ All2 (fun a b => VR ρ ω a.1 b.key ∧ VR ρ ω a.2 b.val) es ents.toList
  | .lp ready env ps as bd => ∃ i r, ρ id = some i ∧ w.heap[i.blk]? = some (.loop r) ∧ LoopOk P ρ ω ready env ps as bd r

def owned : AObj → Bool
  | .dead => false
  | .ro _ _ _ _ => false
  | _ => true

def live : AObj → Bool
  | .dead => false
  | _ => true

theorem live_of_owned {o : AObj} (h : owned o = true) : live o = true := by cases o <;> simp_all [owned, live]

structure HR (ρ : Pth → Option BI) (ω : Nat → Value) (H : AH) (w : World) : Prop where
  ok : ∀ id, ObjOk P ρ ω w id (H.m.get .dead id)
  inj : ∀ id id' i i', owned (H.m.get .dead id) = true → live (H.m.get .dead id') = true → id ≠ id' → ρ id = some i → ρ id' = some i' → i.blk ≠ i'.blk
  fresh : ∀ id i, ρ id = some i → id.toNat < H.next.toNat

def Img (ρ : Pth → Option BI) (H : AH) (b : Nat) : Prop := ∃ id i, live (H.m.get .dead id) = true ∧ ρ id = some i ∧ i.blk = b

def ImgO (ρ : Pth → Option BI) (H : AH) (b : Nat) : Prop := ∃ id i, owned (H.m.get .dead id) = true ∧ ρ id = some i ∧ i.blk = b
theorem ImgO.img {ρ : Pth → Option BI} {H : AH} {b : Nat} (h : ImgO ρ H b) : Img ρ H b := let ⟨id, i, h1, h2, h3⟩ := h; ⟨id, i, live_of_owned h1, h2, h3⟩

/-- from one moment to a later one -/
structure Step (ρ : Pth → Option BI) (ω : Nat → Value) (H : AH) (w : World) (ρ' : Pth → Option BI) (H' : AH) (w' : World) : Prop where
  sub : Sub ρ ρ'
  hr : HR P ρ' ω H' w'
  os : w'.os = w.os
  tape : w'.tape = w.tape
  output : w'.output = w.output
  size : w.heap.size ≤ w'.heap.size
  keep : ∀ b, b < w.heap.size → ¬ ImgO ρ H b → w'.heap[b]? = w.heap[b]?
  img : ∀ b, b < w.heap.size → Img ρ' H' b → Img ρ H b
  imgo : ∀ b, b < w.heap.size → ImgO ρ' H' b → ImgO ρ H b
  next : H.next.toNat ≤ H'.next.toNat
  dom : ∀ id i, ρ' id = some i → id.toNat < H.next.toNat → ρ id = some i

variable {P}
theorem Step.refl {ρ : Pth → Option BI} {ω : Nat → Value} {H : AH} {w : World} (h : HR P ρ ω H w) : Step P ρ ω H w ρ H w :=
  ⟨.refl _, h, rfl, rfl, rfl, Nat.le_refl _, fun _ _ _ => rfl, fun _ _ h => h, fun _ _ h => h, Nat.le_refl _, fun _ _ h _ => h⟩
theorem Step.trans {ρ ρ' ρ'' : Pth → Option BI} {ω : Nat → Value} {H H' H'' : AH} {w w' w'' : World} (a : Step P ρ ω H w ρ' H' w') (b : Step P ρ' ω H' w' ρ'' H'' w'') : Step P ρ ω H w ρ'' H'' w'' where
  sub := a.sub.trans b.sub
  hr := b.hr
  os := b.os.trans a.os
  tape := b.tape.trans a.tape
  output := b.output.trans a.output
  size := Nat.le_trans a.size b.size
  keep := fun k hk hn => (b.keep k (Nat.lt_of_lt_of_le hk a.size) fun hi => hn (a.imgo k hk hi)).trans (a.keep k hk hn)
  img := fun k hk hi => a.img k hk (b.img k (Nat.lt_of_lt_of_le hk a.size) hi)
  imgo := fun k hk hi => a.imgo k hk (b.imgo k (Nat.lt_of_lt_of_le hk a.size) hi)
  next := Nat.le_trans a.next b.next
  dom := fun id i h hl => a.dom id i (b.dom id i h (Nat.lt_of_lt_of_le hl a.next)) hl

theorem EnvOk.mono {ρ ρ' : Pth → Option BI} {ω : Nat → Value} (hs : Sub ρ ρ') {S : List (Nat × Pth)} {e : T8 AVal} {tm : Array Value} (h : EnvOk ρ ω S e tm) : EnvOk ρ' ω S e tm :=
  fun t p hp => (h t p hp).mono hs

theorem ArrOk.mono {ρ ρ' : Pth → Option BI} {ω : Nat → Value} (hs : Sub ρ ρ') {c : Array Value} {i : BI} {esz n : Nat} {d : List AVal} {els : T8 (List AVal)} (h : ArrOk ρ ω c i esz n d els) : ArrOk ρ' ω c i esz n d els :=
  ⟨h.lim, h.size, fun j hj => let ⟨vs, a, b, c, e⟩ := h.els j hj; ⟨vs, VRs.mono hs a, b, c, e⟩⟩

theorem ObjOk.mono {ρ ρ' : Pth → Option BI} {ω : Nat → Value} {w w' : World} {id : Pth} {o : AObj} (hs : Sub ρ ρ')
    (hw : ∀ i, ρ id = some i → w'.heap[i.blk]? = w.heap[i.blk]?) (h : ObjOk P ρ ω w id o) : ObjOk P ρ' ω w' id o := by
  cases o with
  | dead => trivial
  | arr esz n d els => obtain ⟨i, c, T, hi, hc, ha⟩ := h; exact ⟨i, c, T, hs _ _ hi, (hw i hi).trans hc, ha.mono hs⟩
  | ro esz n d els => obtain ⟨i, c, T, fz, hi, hc, ha⟩ := h; exact ⟨i, c, T, fz, hs _ _ hi, (hw i hi).trans hc, ha.mono hs⟩
  | mp es => obtain ⟨i, en, ck, hi, hc, ha⟩ := h; exact ⟨i, en, ck, hs _ _ hi, (hw i hi).trans hc, ha.imp fun _ _ x => ⟨x.1.mono hs, x.2.mono hs⟩⟩
  | lp ready env ps as bd =>
    obtain ⟨i, r, hi, hc, ha⟩ := h
    obtain ⟨⟨S, A, h1, h2, h3⟩, hnr, hst, hpe⟩ := ha
    exact ⟨i, r, hs _ _ hi, (hw i hi).trans hc, ⟨S, A, h1, h2.mono hs, h3⟩, hnr, hst, hpe⟩

/-- a live block exists -/
theorem ObjOk.lt {ρ : Pth → Option BI} {ω : Nat → Value} {w : World} {id : Pth} {o : AObj} (h : ObjOk P ρ ω w id o) (hl : live o = true) : ∃ i, ρ id = some i ∧ i.blk < w.heap.size := by
  have key : ∀ (b : Nat) (x : Obj), w.heap[b]? = some x → b < w.heap.size := fun b x hx => (Array.getElem?_eq_some_iff.1 hx).1
  cases o with
  | dead => cases hl
  | arr esz n d els => obtain ⟨i, c, T, hi, hc, _⟩ := h; exact ⟨i, hi, key _ _ hc⟩
  | ro esz n d els => obtain ⟨i, c, T, fz, hi, hc, _⟩ := h; exact ⟨i, hi, key _ _ hc⟩
  | mp es => obtain ⟨i, en, ck, hi, hc, _⟩ := h; exact ⟨i, hi, key _ _ hc⟩
  | lp ready env ps as bd => obtain ⟨i, r, hi, hc, _⟩ := h; exact ⟨i, hi, key _ _ hc⟩

/-! ### lists of cells -/
theorem dropN_eq (n : Nat) (l : List AVal) : dropN n l = l.drop n := by
  induction n generalizing l with
  | zero => rfl
  | succ n ih => cases l with
    | nil => rfl
    | cons a l => exact ih l
theorem takeN_some {n : Nat} {l r : List AVal} (h : takeN n l = some r) : r = l.take n ∧ n ≤ l.length := by
  induction n generalizing l r with
  | zero => simp only [takeN, Option.some.injEq] at h; subst h; simp
  | succ n ih => cases l with
    | nil => cases h
    | cons a l =>
      unfold takeN at h
      cases hq : takeN n l with
      | none => rw [hq] at h; cases h
      | some q =>
        rw [hq] at h
        simp only [Option.some.injEq] at h
        obtain ⟨h1, h2⟩ := ih hq
        subst h h1
        exact ⟨rfl, by simp; omega⟩
theorem over_some {new l r : List AVal} (h : over new l = some r) : r = new ++ l.drop new.length ∧ new.length ≤ l.length := by
  induction new generalizing l r with
  | nil => simp only [over, Option.some.injEq] at h; subst h; simp
  | cons a new ih => cases l with
    | nil => cases h
    | cons b l =>
      unfold over at h
      cases hq : over new l with
      | none => rw [hq] at h; cases h
      | some q =>
        rw [hq] at h
        simp only [Option.some.injEq] at h
        obtain ⟨h1, h2⟩ := ih hq
        subst h h1
        exact ⟨rfl, by simp; omega⟩
theorem overAt_some {n : Nat} {new l r : List AVal} (h : overAt n new l = some r) : r = l.take n ++ new ++ l.drop (n + new.length) ∧ n + new.length ≤ l.length := by
  induction n generalizing l r with
  | zero =>
    obtain ⟨h1, h2⟩ := over_some (show over new l = some r by cases l <;> exact h)
    subst h1
    exact ⟨by simp, by omega⟩
  | succ n ih => cases l with
    | nil => cases h
    | cons b l =>
      unfold overAt at h
      cases hq : overAt n new l with
      | none => rw [hq] at h; cases h
      | some q =>
        rw [hq] at h
        simp only [Option.some.injEq] at h
        obtain ⟨h1, h2⟩ := ih hq
        subst h h1
        refine ⟨?_, by simp; omega⟩
        rw [show n + 1 + new.length = (n + new.length) + 1 by omega]
        rfl
theorem lenIs_iff {l : List AVal} {n : Nat} (h : lenIs l n = true) : l.length = n := by
  induction l generalizing n with
  | nil => exact (Nat.eq_of_beq_eq_true h).symm
  | cons a l ih =>
    unfold lenIs at h
    cases hb : Nat.beq n 0 with
    | true => rw [hb] at h; cases h
    | false =>
      rw [hb] at h
      have := ih h
      have hn : n ≠ 0 := by intro e; subst e; cases hb
      simp only [List.length_cons, this]
      have : Nat.pred n = n - 1 := rfl
      omega
theorem lenN_eq (l : List AVal) : lenN l = l.length := by
  induction l with
  | nil => rfl
  | cons a l ih => simp only [lenN, ih, List.length_cons]

theorem elem_put_same {j : Nat} {d c : List AVal} {els : T8 (List AVal)} : elem j d (els.put [] c (key j)) = orElse d c := by
  unfold elem; rw [get_put_same]
theorem elem_put_ne {j k : Nat} (h : j ≠ k) {d c : List AVal} {els : T8 (List AVal)} : elem j d (els.put [] c (key k)) = elem j d els := by
  unfold elem; rw [get_put_ne _ _ (fun e => h (key_inj e).symm)]
theorem orElse_ne {d c : List AVal} (h : c ≠ []) : orElse d c = c := by cases c with
  | nil => exact absurd rfl h
  | cons a l => rfl

/-- a value's cells -/
theorem cells_sound {ρ : Pth → Option BI} {ω : Nat → Value} (hω : ∀ i, (ω i).oneCell' = true) {x : AVal} {v : Value} (h : VR ρ ω x v) (hne : x.cells ≠ []) :
    All2 (VR ρ ω) x.cells v.cells.toList ∧ ∀ u ∈ v.cells.toList, u.oneCell' = true := by
  cases h with
  | bad v => exact absurd rfl hne
  | tup l vs h => exact absurd rfl hne
  | agg l vs h hc => exact ⟨by simpa [AVal.cells, Value.cells] using h, by simpa [Value.cells] using hc⟩
  | opq i =>
    have hc : (ω i).cells = #[ω i] := by
      have := hω i
      cases hv : ω i <;> simp_all [Value.oneCell', Value.cells]
    rw [hc]
    exact ⟨.cons (.opq i) .nil, by simpa using hω i⟩
  | pnil => exact ⟨.cons .pnil .nil, by simp [Value.cells, Value.oneCell']⟩
  | se a c => exact ⟨.cons (.se a c) .nil, by simp [Value.cells, Value.oneCell']⟩
  | snil => exact ⟨.cons .snil .nil, by simp [Value.cells, Value.oneCell']⟩
  | fnil => exact ⟨.cons .fnil .nil, by simp [Value.cells, Value.oneCell']⟩
  | mnil => exact ⟨.cons .mnil .nil, by simp [Value.cells, Value.oneCell']⟩
  | yld l i hi => exact ⟨.cons (.yld l i hi) .nil, by simp [Value.cells, Value.oneCell']⟩
  | str s => exact ⟨.cons (.str s) .nil, by simp [Value.cells, Value.oneCell']⟩
  | map id i hi => exact ⟨.cons (.map id i hi) .nil, by simp [Value.cells, Value.oneCell']⟩
  | fnv f caps cs hcs => exact ⟨.cons (.fnv f caps cs hcs) .nil, by simp [Value.cells, Value.oneCell']⟩
  | sg id off len esz cap i hi hl hr => exact ⟨.cons (.sg id off len esz cap i hi hl hr) .nil, by simp [Value.cells, Value.oneCell']⟩
  | sl id off len cap i hi => exact ⟨.cons (.sl id off len cap i hi) .nil, by simp [Value.cells, Value.oneCell']⟩
  | ptr id off i hi => exact ⟨.cons (.ptr id off i hi) .nil, by simp [Value.cells, Value.oneCell']⟩
  | bool b => exact ⟨.cons (.bool b) .nil, by simp [Value.cells, Value.oneCell']⟩
  | int k n => exact ⟨.cons (.int k n) .nil, by simp [Value.cells, Value.oneCell']⟩

/-! ### types -/
theorem run_isAgg {t : TypeId} {b : Bool} (h : tAgg P t = some b) (w : World) : (isAgg t).run P w = .ok b w := by
  unfold tAgg at h
  cases hu : P.underlying t with
  | none => rw [hu] at h; cases h
  | some d =>
    rw [hu] at h
    simp only [Option.map_some, Option.some.injEq] at h
    subst h
    unfold isAgg
    rw [Sem.run_bind, run_underlying hu]
    cases d <;> rfl
theorem run_size {t : TypeId} {n : Nat} (h : tSize P t = some n) (w : World) : (sizeOf t).run P w = .ok n w := by
  unfold tSize at h
  cases hi : P.info? t with
  | none => rw [hi] at h; cases h
  | some i =>
    rw [hi] at h
    simp only [Option.map_some, Option.some.injEq] at h
    subst h
    simp [sizeOf, typeInfo, hi]
end
end Go.Ex

namespace Go.Ex
open Go
variable {P : Program} {ρ : Pth → Option BI} {ω : Nat → Value} {H : AH} {w : World}

/-! ### loads -/
theorem addr_add (b o n : Nat) : (⟨b, o, none⟩ : Addr).add n = ⟨b, o + n, none⟩ := by
  unfold Addr.add
  split
  · simp_all
  · rfl

theorem cell_at {b : Nat} {c : Array Value} {T : TypeId} {fz : Nat × Nat} (h : w.heap[b]? = some (.cells c T fz)) (o : Nat) : w.cell? ⟨b, o, none⟩ = c[o]? := by
  simp [World.cell?, h]

/-- the cells of an element, from a place on -/
theorem ArrOk.part {c : Array Value} {i : BI} {esz n : Nat} {d : List AVal} {els : T8 (List AVal)} (ha : ArrOk ρ ω c i esz n d els) {off sz : Nat} {l : List AVal}
    (hj : Nat.blt (Nat.div off esz) n = true) (ht : takeN sz (dropN (Nat.mod off esz) (elem (Nat.div off esz) d els)) = some l) :
    ∃ vs, All2 (VR ρ ω) l vs ∧ vs.length = sz ∧ (∀ v ∈ vs, v.oneCell' = true) ∧ ∀ k v, vs[k]? = some v → c[i.base + off + k]? = some v := by
  have hlt : off / esz < n := by
    have : Nat.ble (Nat.div off esz + 1) n = true := hj
    exact Nat.le_of_ble_eq_true this
  obtain ⟨vs, h1, h2, h3, h4⟩ := ha.els _ hlt
  rw [dropN_eq] at ht
  obtain ⟨e1, e2⟩ := takeN_some ht
  subst e1
  refine ⟨(vs.drop (off % esz)).take sz, (h1.drop _).take _, ?_, fun v hv => h3 v (List.mem_of_mem_drop (List.mem_of_mem_take hv)), fun k v hk => ?_⟩
  · have := (h1.drop (off % esz)).length
    have e3 : Nat.mod off esz = off % esz := rfl
    have e4 : Nat.div off esz = off / esz := rfl
    rw [e3, e4, this] at e2
    simp only [List.length_take]
    omega
  · have hk' : vs[off % esz + k]? = some v := by
      rw [List.getElem?_take] at hk
      split at hk
      · rw [List.getElem?_drop] at hk; exact hk
      · cases hk
    have := h4 _ _ hk'
    rw [← this]
    congr 1
    have := Nat.div_add_mod off esz
    rw [Nat.mul_comm] at this
    omega

theorem single_some {agg : Bool} {l : Option (List AVal)} {v : AVal} (h : single agg l = v) (hv : v ≠ .bad) : ∃ c, l = some c ∧ ((agg = true ∧ v = .agg c) ∨ (agg = false ∧ c = [v])) := by
  cases l with
  | none => exact absurd h.symm hv
  | some c =>
    refine ⟨c, rfl, ?_⟩
    cases agg with
    | true => exact .inl ⟨rfl, h.symm⟩
    | false =>
      refine .inr ⟨rfl, ?_⟩
      match c, h with
      | [], h => exact absurd h.symm hv
      | [a], h => exact congrArg (fun x => [x]) h
      | _ :: _ :: _, h => exact absurd h.symm hv

theorem load_cells {b : Nat} {c : Array Value} {T : TypeId} {fz : Nat × Nat} (hb : w.heap[b]? = some (.cells c T fz)) {o : Nat} {vs : List Value}
    (h : ∀ k v, vs[k]? = some v → c[o + k]? = some v) : (loadCells ⟨b, o, none⟩ vs.length).run P w = .ok vs.toArray w :=
  run_loadCells_list w _ vs fun j v hj => by rw [addr_add, cell_at hb]; exact h j v hj

theorem loadVar_sound {t : TypeId} {agg : Bool} {sz : Nat} (hagg : tAgg P t = some agg) (hsz : tSize P t = some sz) {b : Nat} {c : Array Value} {T : TypeId} {fz : Nat × Nat}
    (hb : w.heap[b]? = some (.cells c T fz)) {i : BI} {esz n : Nat} {d : List AVal} {els : T8 (List AVal)} (ha : ArrOk ρ ω c i esz n d els) {off : Nat} {v : AVal}
    (h : cellsAt agg sz esz n d els off = v) (hv : v ≠ .bad) : ∃ v', (loadVar t ⟨b, i.base + off, none⟩).run P w = .ok v' w ∧ VR ρ ω v v' := by
  unfold cellsAt at h
  cases hj : Nat.blt (Nat.div off esz) n with
  | false => rw [hj] at h; exact absurd h.symm hv
  | true =>
    rw [hj] at h
    obtain ⟨l, hl, hr⟩ := single_some h hv
    obtain ⟨vs, h1, h2, h3, h4⟩ := ha.part hj hl
    rcases hr with ⟨rfl, rfl⟩ | ⟨rfl, rfl⟩
    · refine ⟨.agg vs.toArray, ?_, .agg _ _ h1 h3⟩
      unfold loadVar
      rw [Sem.run_bind, run_isAgg hagg]
      simp only [Result.andThen_ok, if_true, Sem.run_bind, run_size hsz]
      rw [← h2, load_cells hb h4]
      rfl
    · obtain ⟨u, hu, hvu⟩ := h1.get 0 v rfl
      refine ⟨u, ?_, hvu⟩
      have hc := h4 0 u hu
      simp only [Nat.add_zero] at hc
      unfold loadVar
      rw [Sem.run_bind, run_isAgg hagg]
      simp only [Result.andThen_ok, Bool.false_eq_true, if_false, run_load, cell_at hb, hc]

theorem load_sound (hr : HR P ρ ω H w) {t : TypeId} {agg : Bool} {sz : Nat} (hagg : tAgg P t = some agg) (hsz : tSize P t = some sz) {x v : AVal} {x' : Value} (hx : VR ρ ω x x')
    (h : loadV H agg sz x = v) (hv : v ≠ .bad) : ∃ v', (Instr.loadAt t x').run P w = .ok v' w ∧ VR ρ ω v v' := by
  cases hx with
  | ptr id off i hi =>
    have hok := hr.ok id
    have h' : loadAt H agg sz id off = v := h
    unfold loadAt at h'
    unfold Instr.loadAt Instr.sureAddr
    rw [Sem.run_bind, Sem.run_pure, Result.andThen_ok]
    cases ho : H.m.get .dead id with
    | arr esz n d els =>
      rw [ho] at hok h'
      obtain ⟨i', c, T, hi', hc, ha⟩ := hok
      rw [hi] at hi'; cases hi'
      exact loadVar_sound hagg hsz hc ha h' hv
    | ro esz n d els =>
      rw [ho] at hok h'
      obtain ⟨i', c, T, fz, hi', hc, ha⟩ := hok
      rw [hi] at hi'; cases hi'
      exact loadVar_sound hagg hsz hc ha h' hv
    | dead => rw [ho] at h'; exact absurd h'.symm hv
    | lp _ _ _ _ _ => rw [ho] at h'; exact absurd h'.symm hv
    | mp _ => rw [ho] at h'; exact absurd h'.symm hv
  | _ => exact absurd h.symm hv

/-! ### changes of one block -/
theorem get_set_same (id : Pth) (o : AObj) : (H.set id o).m.get .dead id = o := get_put_same _ _ _ _
theorem get_set_ne {id id' : Pth} (h : id ≠ id') (o : AObj) : (H.set id o).m.get .dead id' = H.m.get .dead id' := get_put_ne _ _ h _
theorem get_add_same (o : AObj) : (H.add o).m.get .dead H.next = o := get_put_same _ _ _ _
theorem get_add_ne {id' : Pth} (h : H.next ≠ id') (o : AObj) : (H.add o).m.get .dead id' = H.m.get .dead id' := get_put_ne _ _ h _

theorem dead_of_not_live {o : AObj} (h : ¬ live o = true) : o = .dead := by cases o <;> simp_all [live]

/-- the object behind an owned block turns, and the block with it -/
theorem HR.set (hr : HR P ρ ω H w) {id : Pth} {i : BI} {o : AObj} {w' : World} (hi : ρ id = some i) (hown : owned (H.m.get .dead id) = true)
    (hos : w'.os = w.os) (htape : w'.tape = w.tape) (hout : w'.output = w.output) (hsize : w'.heap.size = w.heap.size)
    (hother : ∀ b, b ≠ i.blk → w'.heap[b]? = w.heap[b]?) (hobj : ObjOk P ρ ω w' id o) : Step P ρ ω H w ρ (H.set id o) w' where
  sub := .refl _
  hr := {
    ok := fun id' => by
      by_cases he : id = id'
      · subst he; rw [get_set_same]; exact hobj
      · rw [get_set_ne he]
        by_cases hlv : live (H.m.get .dead id') = true
        · exact ObjOk.mono (.refl _) (fun i' hi' => hother _ (Ne.symm (hr.inj id id' i i' hown hlv he hi hi'))) (hr.ok id')
        · rw [dead_of_not_live hlv]; trivial
    inj := fun a b ia ib hoa hlb hab ha hb => by
      have h1 : owned (H.m.get .dead a) = true := by
        by_cases he : id = a
        · subst he; exact hown
        · rw [get_set_ne he] at hoa; exact hoa
      have h2 : live (H.m.get .dead b) = true := by
        by_cases he : id = b
        · subst he; exact live_of_owned hown
        · rw [get_set_ne he] at hlb; exact hlb
      exact hr.inj a b ia ib h1 h2 hab ha hb
    fresh := hr.fresh }
  os := hos
  tape := htape
  output := hout
  size := by omega
  keep := fun b _ hn => hother b fun e => hn ⟨id, i, hown, hi, e.symm⟩
  img := fun b _ hi' => by
    obtain ⟨a, ia, ho, ha, rfl⟩ := hi'
    by_cases he : id = a
    · subst he; exact ⟨id, ia, live_of_owned hown, ha, rfl⟩
    · rw [get_set_ne he] at ho; exact ⟨a, ia, ho, ha, rfl⟩
  imgo := fun b _ hi' => by
    obtain ⟨a, ia, ho, ha, rfl⟩ := hi'
    by_cases he : id = a
    · subst he; exact ⟨id, ia, hown, ha, rfl⟩
    · rw [get_set_ne he] at ho; exact ⟨a, ia, ho, ha, rfl⟩
  next := Nat.le_refl _
  dom := fun _ _ h _ => h
end Go.Ex

namespace Go.Ex
open Go
variable {P : Program} {ρ : Pth → Option BI} {ω : Nat → Value} {H : AH} {w : World}

/-! ### stores -/
/-- a row with a part of it written anew -/
def splice (c : Array Value) (o : Nat) (vs : List Value) : Array Value := (c.toList.take o ++ vs ++ c.toList.drop (o + vs.length)).toArray

theorem splice_get {c : Array Value} {o : Nat} {vs : List Value} (h : o + vs.length ≤ c.size) (q : Nat) :
    (splice c o vs)[q]? = if q < o then c[q]? else if q < o + vs.length then vs[q - o]? else c[q]? := by
  have hl : o ≤ c.toList.length := by simp; omega
  unfold splice
  rw [List.getElem?_toArray, List.append_assoc]
  by_cases h1 : q < o
  · rw [if_pos h1, List.getElem?_append_left (by simp; omega), List.getElem?_take, if_pos h1]
    simp
  · rw [if_neg h1, List.getElem?_append_right (by simp; omega)]
    have e1 : (c.toList.take o).length = o := by simp; omega
    rw [e1]
    by_cases h2 : q < o + vs.length
    · rw [if_pos h2, List.getElem?_append_left (by omega)]
    · rw [if_neg h2, List.getElem?_append_right (by omega), List.getElem?_drop]
      rw [show o + vs.length + (q - o - vs.length) = q by omega]
      simp
theorem splice_size {c : Array Value} {o : Nat} {vs : List Value} (h : o + vs.length ≤ c.size) : (splice c o vs).size = c.size := by
  unfold splice
  simp
  omega

theorem setRow_size (w : World) (g : Nat) (cs : Array Value) : (w.setRow g cs).heap.size = w.heap.size := by simp [World.setRow]

/-- an element written anew -/
theorem ArrOk.put {c : Array Value} {i : BI} {esz n : Nat} {d : List AVal} {els : T8 (List AVal)} (ha : ArrOk ρ ω c i esz n d els) {j : Nat} (hj : j < n) {cs : List AVal} {us : List Value}
    (hcs : All2 (VR ρ ω) cs us) (hlen : us.length = esz) (hone : ∀ u ∈ us, u.oneCell' = true) (hpos : 0 < esz) {c' : Array Value} (hsz : c'.size = c.size)
    (hsame : ∀ q, ¬ (i.base + j * esz ≤ q ∧ q < i.base + j * esz + esz) → c'[q]? = c[q]?) (hnew : ∀ k u, us[k]? = some u → c'[i.base + j * esz + k]? = some u) :
    ArrOk ρ ω c' i esz n d (els.put [] cs (key j)) where
  lim := ha.lim
  size := by rw [hsz]; exact ha.size
  els := fun m hm => by
    by_cases he : m = j
    · subst he
      rw [elem_put_same, orElse_ne (by intro e; subst e; have := hcs.length; simp at this; omega)]
      exact ⟨us, hcs, hlen, hone, hnew⟩
    · rw [elem_put_ne he]
      obtain ⟨vs, h1, h2, h3, h4⟩ := ha.els m hm
      refine ⟨vs, h1, h2, h3, fun k v hk => ?_⟩
      have hk' : k < esz := by have := (List.getElem?_eq_some_iff.1 hk).1; omega
      rw [hsame _ ?_]
      · exact h4 k v hk
      · intro ⟨x1, x2⟩
        rcases Nat.lt_or_gt_of_ne he with hlt | hgt
        · have : (m + 1) * esz ≤ j * esz := Nat.mul_le_mul_right _ hlt
          rw [Nat.add_mul] at this
          omega
        · have : (j + 1) * esz ≤ m * esz := Nat.mul_le_mul_right _ hgt
          rw [Nat.add_mul] at this
          omega

theorem store_sound (hω : ∀ i, (ω i).oneCell' = true) (hr : HR P ρ ω H w) {t : TypeId} {sz : Nat} (hsz : tSize P t = some sz) {x u v : AVal} {x' u' : Value} (hx : VR ρ ω x x') (hu : VR ρ ω u u') {H' : AH}
    (h : storeV H sz x u = .ok v H') : v = undefV ∧ ∃ w', (Instr.storeAt t x' u').run P w = .ok () w' ∧ Step P ρ ω H w ρ H' w' := by
  cases hx with
  | ptr id off i hi =>
    simp only [storeV] at h
    cases h0 : (Nat.blt 0 sz && lenIs u.cells sz) with
    | false => rw [h0] at h; cases h
    | true =>
      rw [h0] at h
      simp only [cond] at h
      rw [Bool.and_eq_true] at h0
      obtain ⟨hpos, hlen⟩ := h0
      have hpos : 0 < sz := Nat.le_of_ble_eq_true hpos
      have hlen := lenIs_iff hlen
      have hne : u.cells ≠ [] := by intro e; rw [e] at hlen; simp at hlen; omega
      obtain ⟨hcs, hone⟩ := cells_sound hω hu hne
      unfold storeAt at h
      cases ho : H.m.get .dead id with
      | arr esz n d els =>
        rw [ho] at h
        simp only at h
        have hok := hr.ok id
        rw [ho] at hok
        obtain ⟨i', c, T, hi', hc, ha⟩ := hok
        rw [hi] at hi'; cases hi'
        cases hj : Nat.blt (Nat.div off esz) n with
        | false => rw [hj] at h; cases h
        | true =>
          rw [hj] at h
          simp only [cond] at h
          have hlt : off / esz < n := by
            have : Nat.ble (Nat.div off esz + 1) n = true := hj
            exact Nat.le_of_ble_eq_true this
          cases hov : overAt (Nat.mod off esz) u.cells (elem (Nat.div off esz) d els) with
          | none => rw [hov] at h; cases h
          | some cs =>
            rw [hov] at h
            simp only [R.ok.injEq] at h
            obtain ⟨hv, rfl⟩ := h
            refine ⟨hv.symm, ?_⟩
            obtain ⟨vs, h1, h2, h3, h4⟩ := ha.els _ hlt
            obtain ⟨e1, e2⟩ := overAt_some hov
            have elen := h1.length
            have hdm : off / esz * esz + off % esz = off := by rw [Nat.mul_comm]; exact Nat.div_add_mod off esz
            have e3 : Nat.mod off esz = off % esz := rfl
            have e4 : Nat.div off esz = off / esz := rfl
            rw [e3, e4] at e1 e2
            have hvl : u'.cells.toList.length = sz := by rw [← hcs.length]; exact hlen
            have hin : off % esz + sz ≤ esz := by omega
            have hfit : i.base + off + 0 + u'.cells.toList.length ≤ c.size := by
              have hmul : (off / esz + 1) * esz ≤ n * esz := Nat.mul_le_mul_right _ hlt
              rw [Nat.add_mul] at hmul
              have := ha.lim
              have := ha.size
              omega
            have hrun := run_storeCells_at (P := P) i.blk (i.base + off) T u'.cells.toList 0 c w hc hfit hone
            simp only [Nat.add_zero] at hfit hrun
            refine ⟨w.setRow i.blk (splice c (i.base + off) u'.cells.toList), ?_, ?_⟩
            · unfold Instr.storeAt Instr.sureAddr
              rw [Sem.run_bind, Sem.run_pure, Result.andThen_ok]
              unfold storeVar
              rw [Sem.run_bind, run_size hsz, Result.andThen_ok]
              rw [if_neg (by rw [← hvl]; simp)]
              exact hrun
            · have hrow : (w.setRow i.blk (splice c (i.base + off) u'.cells.toList)).heap[i.blk]? = some (.cells (splice c (i.base + off) u'.cells.toList) T (0, 0)) := setRow_heap w i.blk c _ T (0, 0) hc
              refine hr.set (w' := w.setRow i.blk (splice c (i.base + off) u'.cells.toList)) hi (by rw [ho]; rfl) rfl rfl rfl (setRow_size _ _ _) (fun b hb => setRow_other w i.blk b _ hb) ?_
              refine ⟨i, _, T, hi, hrow, ?_⟩
              have hesz : 0 < esz := by omega
              -- the element as it is now
              have hnewcs : All2 (VR ρ ω) cs (vs.take (off % esz) ++ u'.cells.toList ++ vs.drop (off % esz + u.cells.length)) := by
                rw [e1]; exact ((h1.take _).append hcs).append (h1.drop _)
              refine ha.put hlt hnewcs ?_ ?_ hesz (splice_size hfit) ?_ ?_
              · simp only [List.length_append, List.length_take, List.length_drop, hvl, hlen]; omega
              · intro x hx
                simp only [List.mem_append] at hx
                rcases hx with (hx | hx) | hx
                · exact h3 x (List.mem_of_mem_take hx)
                · exact hone x hx
                · exact h3 x (List.mem_of_mem_drop hx)
              · intro q hq
                rw [splice_get hfit]
                by_cases q1 : q < i.base + off
                · rw [if_pos q1]
                · rw [if_neg q1, if_neg (by rw [hvl]; omega)]
              · intro k x hk
                rw [splice_get hfit, hvl]
                rw [List.append_assoc] at hk
                have hofs : i.base + off / esz * esz + k = i.base + off + k - off % esz := by omega
                by_cases k1 : k < off % esz
                · rw [if_pos (by omega)]
                  rw [List.getElem?_append_left (by simp; omega), List.getElem?_take, if_pos k1] at hk
                  exact h4 k x hk
                · rw [if_neg (by omega)]
                  have e5 : (vs.take (off % esz)).length = off % esz := by simp; omega
                  rw [List.getElem?_append_right (by omega), e5] at hk
                  by_cases k2 : k < off % esz + sz
                  · rw [if_pos (by omega)]
                    rw [List.getElem?_append_left (by omega)] at hk
                    rw [← hk]; congr 1; omega
                  · rw [if_neg (by omega)]
                    rw [List.getElem?_append_right (by omega), List.getElem?_drop, hvl, hlen] at hk
                    rw [show off % esz + sz + (k - off % esz - sz) = k by omega] at hk
                    exact h4 k x hk
      | ro _ _ _ _ => rw [ho] at h; cases h
      | dead => rw [ho] at h; cases h
      | lp _ _ _ _ _ => rw [ho] at h; cases h
      | mp _ => rw [ho] at h; cases h
  | _ => cases h

/-! ### new blocks -/
theorem ne_of_fresh (hr : HR P ρ ω H w) {id : Pth} {i : BI} (h : ρ id = some i) : H.next ≠ id := by
  intro e
  have := hr.fresh id i h
  rw [e] at this
  omega

def ext (ρ : Pth → Option BI) (id : Pth) (i : BI) : Pth → Option BI := fun q => if q = id then some i else ρ q

theorem ext_same (ρ : Pth → Option BI) (id : Pth) (i : BI) : ext ρ id i id = some i := if_pos rfl
theorem ext_ne (ρ : Pth → Option BI) {id q : Pth} (i : BI) (h : q ≠ id) : ext ρ id i q = ρ q := if_neg h

theorem none_of_fresh (hr : HR P ρ ω H w) : ρ H.next = none := by
  cases h : ρ H.next with
  | none => rfl
  | some i => exact absurd rfl (ne_of_fresh hr h)
theorem sub_ext (hr : HR P ρ ω H w) (i : BI) : Sub ρ (ext ρ H.next i) := fun id j h => by
  rw [ext_ne _ _ (Ne.symm (ne_of_fresh hr h))]; exact h

/-- no live object at the next key -/
theorem next_dead (hr : HR P ρ ω H w) : H.m.get .dead H.next = .dead := by
  refine dead_of_not_live fun hl => ?_
  obtain ⟨i, hi, _⟩ := (hr.ok H.next).lt hl
  exact ne_of_fresh hr hi rfl

/-- a new object, and a new block behind it -/
theorem HR.add (hr : HR P ρ ω H w) {o : AObj} {ob : Obj} {i : BI} (hb : i.blk = w.heap.size) (hobj : ObjOk P (ext ρ H.next i) ω (w.alloc ob) H.next o) :
    Step P ρ ω H w (ext ρ H.next i) (H.add o) (w.alloc ob) where
  sub := sub_ext hr i
  hr := {
    ok := fun id => by
      by_cases he : H.next = id
      · subst he; rw [get_add_same]; exact hobj
      · rw [get_add_ne he]
        by_cases hlv : live (H.m.get .dead id) = true
        · obtain ⟨j, hj, hlt⟩ := (hr.ok id).lt hlv
          refine ObjOk.mono (sub_ext hr i) (fun i' hi' => ?_) (hr.ok id)
          rw [hj] at hi'; cases hi'
          show (w.heap.push ob)[j.blk]? = _
          rw [Array.getElem?_push, if_neg (by omega)]
        · rw [dead_of_not_live hlv]; trivial
    inj := fun a b ia ib hoa hlb hab ha hb' => by
      by_cases e1 : H.next = a
      · subst e1
        rw [get_add_ne hab] at hlb
        rw [ext_same] at ha; cases ha
        rw [ext_ne _ _ (Ne.symm hab)] at hb'
        obtain ⟨j, hj, hlt⟩ := (hr.ok b).lt hlb
        rw [hj] at hb'; cases hb'
        omega
      · rw [get_add_ne e1] at hoa
        rw [ext_ne _ _ (Ne.symm e1)] at ha
        by_cases e2 : H.next = b
        · subst e2
          rw [ext_same] at hb'; cases hb'
          obtain ⟨j, hj, hlt⟩ := (hr.ok a).lt (live_of_owned hoa)
          rw [hj] at ha; cases ha
          omega
        · rw [get_add_ne e2] at hlb
          rw [ext_ne _ _ (Ne.symm e2)] at hb'
          exact hr.inj a b ia ib hoa hlb hab ha hb'
    fresh := fun id j hj => by
      have hn : (H.add o).next.toNat = H.next.toNat + 1 := Pth.toNat_succ _
      rw [hn]
      by_cases e : id = H.next
      · subst e; omega
      · rw [ext_ne _ _ e] at hj
        have := hr.fresh id j hj
        omega }
  os := rfl
  tape := rfl
  output := rfl
  size := by simp
  keep := fun b hb' _ => by
    show (w.heap.push ob)[b]? = _
    rw [Array.getElem?_push, if_neg (by omega)]
  img := fun b hb' hi' => by
    obtain ⟨a, ia, ho, ha, rfl⟩ := hi'
    by_cases e : H.next = a
    · subst e
      rw [ext_same] at ha; cases ha
      omega
    · rw [get_add_ne e] at ho
      rw [ext_ne _ _ (Ne.symm e)] at ha
      exact ⟨a, ia, ho, ha, rfl⟩
  imgo := fun b hb' hi' => by
    obtain ⟨a, ia, ho, ha, rfl⟩ := hi'
    by_cases e : H.next = a
    · subst e
      rw [ext_same] at ha; cases ha
      omega
    · rw [get_add_ne e] at ho
      rw [ext_ne _ _ (Ne.symm e)] at ha
      exact ⟨a, ia, ho, ha, rfl⟩
  next := by have : (H.add o).next.toNat = H.next.toNat + 1 := Pth.toNat_succ _; omega
  dom := fun q j hj hl => by rw [ext_ne _ _ (fun e => by subst e; omega)] at hj; exact hj
end Go.Ex

namespace Go.Ex
open Go
variable {P : Program} {ρ : Pth → Option BI} {ω : Nat → Value} {H : AH} {w : World}

/-! ### operands -/
def GlobOk (P : Program) (ρ : Pth → Option BI) : Prop := ∀ g, g < P.globals.size → ∃ i, ρ (key g) = some i ∧ i.blk = g ∧ i.base = 0

structure CtxOk (ρ : Pth → Option BI) (ω : Nat → Value) (G : Ctx) (L : List AVal) (e : T8 AVal) (tm : Array Value) : Prop where
  len : L.length = G.m
  lev : ∀ t n, lookG G.g t = some (.lev n) → n < G.m
  ok : ∀ t s, lookG G.g t = some s → VR ρ ω ((s.opd G.m).ev L e) (tm.getD t undef)

theorem scalarOf_sound {v : Value} {x : AVal} (h : scalarOf v = some x) : VR ρ ω x v ∧ v.oneCell' = true := by
  unfold scalarOf at h
  split at h <;> first
    | (simp only [Option.some.injEq] at h; subst h; exact ⟨by constructor, rfl⟩)
    | cases h

theorem scalars_sound {l : List Value} {r : List AVal} (h : scalars l = some r) : All2 (VR ρ ω) r l ∧ ∀ v ∈ l, v.oneCell' = true := by
  induction l generalizing r with
  | nil => simp only [scalars, Option.some.injEq] at h; subst h; exact ⟨.nil, by simp⟩
  | cons v l ih =>
    simp only [scalars, Option.bind_eq_some_iff] at h
    obtain ⟨a, ha, q, hq, he⟩ := h
    simp only [Option.some.injEq] at he
    subst he
    obtain ⟨h1, h2⟩ := scalarOf_sound (ρ := ρ) (ω := ω) ha
    obtain ⟨h3, h4⟩ := ih hq
    refine ⟨.cons h1 h3, fun u hu => ?_⟩
    rcases List.mem_cons.1 hu with rfl | hu
    · exact h2
    · exact h4 u hu

theorem ofValue_sound {v : Value} {x : AVal} (h : ofValue v = some x) : VR ρ ω x v := by
  unfold ofValue at h
  split at h
  · rename_i cs
    simp only [Option.map_eq_some_iff] at h
    obtain ⟨l, hl, rfl⟩ := h
    obtain ⟨h1, h2⟩ := scalars_sound (ρ := ρ) (ω := ω) hl
    have := VR.agg (ρ := ρ) (ω := ω) l cs.toList h1 h2
    simpa using this
  · exact (scalarOf_sound h).1

variable {N : Nat} {S : List (Nat × Pth)} {G : Ctx} {L : List AVal} {e : T8 AVal} {a : Act}

theorem cOpd_sound (hg : GlobOk P ρ) (he : EnvOk ρ ω S e a.tmps) (hc : CtxOk ρ ω G L e a.tmps) {x : Operand} {c : COpd} (h : cOpd P N S G x = some c) : VR ρ ω (c.ev L e) (a.eval x) := by
  cases x with
  | tmp t =>
    simp only [cOpd] at h
    cases hb : Nat.blt t N with
    | false => rw [hb] at h; cases h
    | true =>
      rw [hb] at h
      simp only [cond] at h
      cases hl : lookG G.g t with
      | some s =>
        rw [hl] at h
        simp only [Option.some.injEq] at h
        subst h
        exact hc.ok t s hl
      | none =>
        rw [hl] at h
        simp only [Option.map_eq_some_iff] at h
        obtain ⟨p, hp, rfl⟩ := h
        exact he t p hp
  | const v =>
    simp only [cOpd, Option.map_eq_some_iff] at h
    obtain ⟨y, hy, rfl⟩ := h
    exact ofValue_sound hy
  | global g =>
    simp only [cOpd] at h
    cases hb : Nat.blt g P.globals.size with
    | false => rw [hb] at h; cases h
    | true =>
      rw [hb] at h
      simp only [cond, Option.some.injEq] at h
      subst h
      obtain ⟨i, hi, h1, h2⟩ := hg g (Nat.le_of_ble_eq_true hb)
      have := VR.ptr (ρ := ρ) (ω := ω) (key g) 0 i hi
      rw [h1, h2] at this
      exact this
  | func f =>
    simp only [cOpd, Option.some.injEq] at h
    subst h
    exact .fnv f [] [] .nil

theorem cOpds_sound (hg : GlobOk P ρ) (he : EnvOk ρ ω S e a.tmps) (hc : CtxOk ρ ω G L e a.tmps) {xs : List Operand} {cs : List COpd} (h : cOpds P N S G xs = some cs) :
    All2 (VR ρ ω) (evs L e cs) (xs.map a.eval) := by
  induction xs generalizing cs with
  | nil => simp only [cOpds, Option.some.injEq] at h; subst h; exact .nil
  | cons x xs ih =>
    simp only [cOpds, Option.bind_eq_some_iff] at h
    obtain ⟨c, h1, r, h2, h3⟩ := h
    simp only [Option.some.injEq] at h3
    subst h3
    exact .cons (cOpd_sound hg he hc h1) (ih h2)

/-! ### integers -/
theorem intEq_iff (x y : Int) : intEq x y = (x == y) := by
  cases x with
  | ofNat m => cases y with
    | ofNat n => show Nat.beq m n = (Int.ofNat m == Int.ofNat n); rw [Bool.eq_iff_iff]; simp only [Nat.beq_eq, beq_iff_eq]; exact ⟨fun h => by rw [h], fun h => Int.ofNat.inj h⟩
    | negSucc n => show false = (Int.ofNat m == Int.negSucc n); rw [Bool.eq_iff_iff]; simp
  | negSucc m => cases y with
    | ofNat n => show false = (Int.negSucc m == Int.ofNat n); rw [Bool.eq_iff_iff]; simp
    | negSucc n => show Nat.beq m n = (Int.negSucc m == Int.negSucc n); rw [Bool.eq_iff_iff]; simp
theorem intLt_iff (x y : Int) : intLt x y = decide (x < y) := by
  cases x with
  | ofNat m => cases y with
    | ofNat n => show Nat.ble (m + 1) n = _; rw [Bool.eq_iff_iff, Nat.ble_eq, decide_eq_true_iff]; simp only [Int.ofNat_eq_natCast]; omega
    | negSucc n => show false = _; rw [Bool.eq_iff_iff, decide_eq_true_iff]; simp only [Int.ofNat_eq_natCast]; constructor <;> intro h <;> first | cases h | omega
  | negSucc m => cases y with
    | ofNat n => exact (decide_eq_true (show Int.negSucc m < Int.ofNat n by simp only [Int.ofNat_eq_natCast]; omega)).symm
    | negSucc n => show Nat.ble (n + 1) m = _; rw [Bool.eq_iff_iff, Nat.ble_eq, decide_eq_true_iff]; omega
theorem boolEq_iff (x y : Bool) : boolEq x y = (x == y) := by cases x <;> cases y <;> rfl
theorem kindEq_iff {k l : IntKind} : kindEq k l = true ↔ k = l := by cases k <;> cases l <;> simp [kindEq]

theorem u64_wrap (n : Int) : IntKind.u64.wrap n = n % 18446744073709551616 := by simp [IntKind.wrap, IntKind.bits, IntKind.signed]
theorem u32_wrap (n : Int) : IntKind.u32.wrap n = n % 4294967296 := by simp [IntKind.wrap, IntKind.bits, IntKind.signed]
theorem cond_of {α : Type} {c : Bool} {x y z : α} (h1 : c = true → x = z) (h2 : y = z) : (bif c then x else y) = z := by
  cases c
  · exact h2
  · exact h1 rfl
theorem wrapN_eq (k : IntKind) (n : Int) : wrapN k n = k.wrap n := by
  unfold wrapN
  split
  · rename_i m
    refine cond_of (fun hb => ?_) rfl
    have hlt : m < two63 := Nat.le_of_ble_eq_true hb
    unfold two63 at hlt
    exact (IntWalk.i64_in _ (by simp only [Int.ofNat_eq_natCast]; omega)).symm
  · rename_i m
    refine cond_of (fun hb => ?_) (Eq.refl _)
    have hlt : m < two63 := Nat.le_of_ble_eq_true hb
    unfold two63 at hlt
    exact (IntWalk.i64_in _ (by omega)).symm
  · rename_i m
    rw [u64_wrap]
    exact (Int.natCast_emod m 18446744073709551616)
  · rename_i m
    rw [u32_wrap]
    exact (Int.natCast_emod m 4294967296)
  · rfl

theorem isZero_false {y : Int} (h : isZero y = false) : y ≠ 0 := by
  intro e
  subst e
  cases h

theorem intBits_sound {op : BinOp} {k : IntKind} {x y : Int} {v : AVal} (h : intBits op k x y = v) (hv : v ≠ .bad) : ∃ v', (Op.intBits op k x y).run P w = .ok v' w ∧ VR ρ ω v v' := by
  unfold intBits at h
  cases op <;> simp only at h <;> first
    | exact absurd h.symm hv
    | (subst h; exact ⟨_, rfl, .int _ _⟩)

theorem intBin_sound {t : TypeId} {op : BinOp} {k : IntKind} {x y : Int} {v : AVal} (hs : isShift op = false) (h : intBin op k x y = v) (hv : v ≠ .bad) : ∃ v', (binOp op t (.int k x) (.int k y)).run P w = .ok v' w ∧ VR ρ ω v v' := by
  unfold intBin at h
  cases op <;> simp only at h
  case add => subst h; exact ⟨.int k (k.wrap (x + y)), by simp [binOp, Op.intArith], by rw [wrapN_eq]; exact .int _ _⟩
  case sub => subst h; exact ⟨.int k (k.wrap (x - y)), by simp [binOp, Op.intArith], by rw [wrapN_eq]; exact .int _ _⟩
  case mul => subst h; exact ⟨.int k (k.wrap (x * y)), by simp [binOp, Op.intArith], by rw [wrapN_eq]; exact .int _ _⟩
  case quo =>
    cases hz : isZero y with
    | true => rw [hz] at h; exact absurd h.symm hv
    | false =>
      rw [hz] at h
      have := isZero_false hz
      simp only [cond] at h
      subst h
      exact ⟨.int k (k.wrap (x.tdiv y)), by simp [binOp, Op.intDiv, this], by rw [wrapN_eq]; exact .int _ _⟩
  case rem =>
    cases hz : isZero y with
    | true => rw [hz] at h; exact absurd h.symm hv
    | false =>
      rw [hz] at h
      have := isZero_false hz
      simp only [cond] at h
      subst h
      exact ⟨.int k (x.tmod y), by simp [binOp, Op.intDiv, this], .int _ _⟩
  case eql => subst h; exact ⟨.bool (x == y), by simp [binOp, Op.intCmp], by rw [intEq_iff]; exact .bool _⟩
  case neq => subst h; exact ⟨.bool (x != y), by simp [binOp, Op.intCmp], by rw [intEq_iff]; exact .bool _⟩
  case lss => subst h; exact ⟨.bool (x < y), by simp [binOp, Op.intCmp], by rw [intLt_iff]; exact .bool _⟩
  case leq => subst h; exact ⟨.bool (x ≤ y), by simp [binOp, Op.intCmp], by rw [intLt_iff, show (!decide (y < x)) = decide (x ≤ y) by rw [Bool.eq_iff_iff]; simp]; exact .bool _⟩
  case gtr => subst h; exact ⟨.bool (x > y), by simp [binOp, Op.intCmp], by rw [intLt_iff]; exact .bool _⟩
  case geq => subst h; exact ⟨.bool (x ≥ y), by simp [binOp, Op.intCmp], by rw [intLt_iff, show (!decide (x < y)) = decide (x ≥ y) by rw [Bool.eq_iff_iff]; simp]; exact .bool _⟩
  case and => obtain ⟨v', h1, h2⟩ := intBits_sound (P := P) (w := w) (ρ := ρ) (ω := ω) h hv; exact ⟨v', by simpa [binOp] using h1, h2⟩
  case or => obtain ⟨v', h1, h2⟩ := intBits_sound (P := P) (w := w) (ρ := ρ) (ω := ω) h hv; exact ⟨v', by simpa [binOp] using h1, h2⟩
  case xor => obtain ⟨v', h1, h2⟩ := intBits_sound (P := P) (w := w) (ρ := ρ) (ω := ω) h hv; exact ⟨v', by simpa [binOp] using h1, h2⟩
  case andNot => obtain ⟨v', h1, h2⟩ := intBits_sound (P := P) (w := w) (ρ := ρ) (ω := ω) h hv; exact ⟨v', by simpa [binOp] using h1, h2⟩
  case shl => cases hs
  case shr => cases hs

theorem intShift_sound {t : TypeId} {op : BinOp} {k l : IntKind} {x y : Int} {v : AVal} (hs : isShift op = true) (h : intShift op k x y = v) (hv : v ≠ .bad) : ∃ v', (binOp op t (.int k x) (.int l y)).run P w = .ok v' w ∧ VR ρ ω v v' := by
  unfold intShift at h
  cases y with
  | negSucc m => exact absurd h.symm hv
  | ofNat m =>
    simp only at h
    have hn : ¬ (Int.ofNat m < 0) := by simp only [Int.ofNat_eq_natCast]; omega
    cases op <;> simp only at h <;> first
      | (cases hs; done)
      | (subst h
         refine ⟨_, by simp only [binOp, Op.shift, if_neg hn]; rfl, ?_⟩
         first
           | (rw [wrapN_eq]; exact .int _ _)
           | exact .int _ _)
end Go.Ex

namespace Go.Ex
open Go
variable {P : Program} {ρ : Pth → Option BI} {ω : Nat → Value} {H : AH} {w : World}

theorem isShift_or (op : BinOp) : isShift op = true ∨ isShift op = false := by cases isShift op <;> simp

theorem eqGuard_int {op : BinOp} {t : TypeId} {x y : Operand} {k l : IntKind} {m n : Int} : (eqGuard op t x y (.int k m) (.int l n)).run P w = .ok () w := by
  unfold eqGuard
  split <;> rfl

theorem bin_sound {op : BinOp} {t : TypeId} {xo yo : Operand} {x y v : AVal} {x' y' : Value} (hx : VR ρ ω x x') (hy : VR ρ ω y y') (h : binV op x y = v) (hv : v ≠ .bad) :
    ∃ v', (do eqGuard op t xo yo x' y'; binOp op t x' y' : Sem Value).run P w = .ok v' w ∧ VR ρ ω v v' := by
  cases hx with
  | int k m => cases hy with
    | int l n =>
      simp only [binV] at h
      rcases isShift_or op with hs | hs
      · rw [hs] at h
        obtain ⟨v', h1, h2⟩ := intShift_sound (P := P) (w := w) (ρ := ρ) (ω := ω) (t := t) (l := l) hs h hv
        exact ⟨v', by rw [Sem.run_bind, eqGuard_int, Result.andThen_ok]; exact h1, h2⟩
      · rw [hs] at h
        cases hk : kindEq k l with
        | false => rw [hk] at h; exact absurd h.symm hv
        | true =>
          rw [hk] at h
          obtain rfl := kindEq_iff.1 hk
          obtain ⟨v', h1, h2⟩ := intBin_sound (P := P) (w := w) (ρ := ρ) (ω := ω) (t := t) hs h hv
          exact ⟨v', by rw [Sem.run_bind, eqGuard_int, Result.andThen_ok]; exact h1, h2⟩
    | _ => exact absurd h.symm hv
  | _ => exact absurd h.symm hv

theorem ofEq_some {op : BinOp} {b : Option Bool} {v : AVal} (h : ofEq op b = v) (hv : v ≠ .bad) : ∃ c, b = some c ∧ ((op = .eql ∧ v = .bool c) ∨ (op = .neq ∧ v = .bool (!c))) := by
  unfold ofEq at h
  cases b with
  | none => exact absurd h.symm hv
  | some c => cases op <;> first | exact absurd h.symm hv | exact ⟨c, rfl, .inl ⟨rfl, h.symm⟩⟩ | exact ⟨c, rfl, .inr ⟨rfl, h.symm⟩⟩

/-- the class of a type, as 'cmp' has it -/
def clsOk (P : Program) (t : TypeId) : Nat → Prop
  | 0 => P.underlying t = some .bool
  | 1 => ∃ e, P.underlying t = some (.pointer e)
  | 2 => ∃ e, P.underlying t = some (.slice e)
  | 3 => ∃ a b c, P.underlying t = some (.func a b c)
  | 4 => ∃ a b, P.underlying t = some (.map a b)
  | _ => False

theorem eql_of_equal {op : BinOp} {t : TypeId} {xo yo : Operand} {x' y' : Value} {c : Bool} {v : AVal} (hg : (eqGuard op t xo yo x' y').run P w = .ok () w)
    (hbe : binOp .eql t x' y' = (do pure (.bool (← Op.equal t x' y')))) (hbn : binOp .neq t x' y' = (do pure (.bool (!(← Op.equal t x' y')))))
    (he : (Op.equal t x' y').run P w = .ok c w) (hop : (op = .eql ∧ v = .bool c) ∨ (op = .neq ∧ v = .bool (!c))) :
    ∃ v', (do eqGuard op t xo yo x' y'; binOp op t x' y' : Sem Value).run P w = .ok v' w ∧ VR ρ ω v v' := by
  rcases hop with ⟨rfl, rfl⟩ | ⟨rfl, rfl⟩
  · exact ⟨.bool c, by rw [Sem.run_bind, hg, Result.andThen_ok, hbe, Sem.run_bind, he]; rfl, .bool _⟩
  · exact ⟨.bool (!c), by rw [Sem.run_bind, hg, Result.andThen_ok, hbn, Sem.run_bind, he]; rfl, .bool _⟩

theorem cmp_sound {cls : Nat} {op : BinOp} {t : TypeId} {xo yo : Operand} {x y v : AVal} {x' y' : Value} (hc : clsOk P t cls) (hx : VR ρ ω x x') (hy : VR ρ ω y y') (h : cmpV cls op x y = v) (hv : v ≠ .bad) :
    ∃ v', (do eqGuard op t xo yo x' y'; binOp op t x' y' : Sem Value).run P w = .ok v' w ∧ VR ρ ω v v' := by
  obtain ⟨c, hb, hop⟩ := ofEq_some h hv
  unfold eqlV at hb
  have g0 : ∀ {x' y' : Value}, (∀ z, x' ≠ .agg z) → x' ≠ .nilIface → (eqGuard op t xo yo x' y').run P w = .ok () w := by
    intro x' y' h1 h2
    cases x' <;> first
      | exact absurd rfl (h1 _)
      | exact absurd rfl h2
      | (cases op <;> rfl)
  split at hb
  · -- bool
    cases hx with
    | bool a => cases hy with
      | bool b =>
        simp only [Option.some.injEq] at hb
        refine eql_of_equal (g0 (by simp) (by simp)) rfl rfl (c := c) ?_ hop
        subst hb
        unfold Op.equal Op.maxDepth Op.equalIn
        rw [Sem.run_bind, run_underlying hc, Result.andThen_ok]
        simp only [Sem.run_pure, boolEq_iff]
      | _ => cases hb
    | _ => cases hb
  · obtain ⟨e, he⟩ := hc
    cases hx with
    | pnil => cases hy with
      | pnil =>
        simp only [Option.some.injEq] at hb
        refine eql_of_equal (g0 (by simp) (by simp)) rfl rfl (c := c) ?_ hop
        subst hb
        unfold Op.equal Op.maxDepth Op.equalIn
        rw [Sem.run_bind, run_underlying he, Result.andThen_ok]
        rfl
      | ptr id off i hi =>
        simp only [Option.some.injEq] at hb
        refine eql_of_equal (g0 (by simp) (by simp)) rfl rfl (c := c) ?_ hop
        subst hb
        unfold Op.equal Op.maxDepth Op.equalIn
        rw [Sem.run_bind, run_underlying he, Result.andThen_ok]
        rfl
      | _ => cases hb
    | ptr id off i hi => cases hy with
      | pnil =>
        simp only [Option.some.injEq] at hb
        refine eql_of_equal (g0 (by simp) (by simp)) rfl rfl (c := c) ?_ hop
        subst hb
        unfold Op.equal Op.maxDepth Op.equalIn
        rw [Sem.run_bind, run_underlying he, Result.andThen_ok]
        rfl
      | _ => cases hb
    | _ => cases hb
  · obtain ⟨e, he⟩ := hc
    cases hx <;> cases hy <;> first
      | (cases hb; done)
      | (simp only [Option.some.injEq] at hb
         refine eql_of_equal (g0 (by simp) (by simp)) rfl rfl (c := c) ?_ hop
         subst hb
         unfold Op.equal Op.maxDepth Op.equalIn
         rw [Sem.run_bind, run_underlying he, Result.andThen_ok]
         rfl)
  · obtain ⟨a1, a2, a3, he⟩ := hc
    cases hx <;> cases hy <;> first
      | (cases hb; done)
      | (simp only [Option.some.injEq] at hb
         refine eql_of_equal (g0 (by simp) (by simp)) rfl rfl (c := c) ?_ hop
         subst hb
         unfold Op.equal Op.maxDepth Op.equalIn
         rw [Sem.run_bind, run_underlying he, Result.andThen_ok]
         rfl)
  · obtain ⟨a1, a2, he⟩ := hc
    cases hx <;> cases hy <;> first
      | (cases hb; done)
      | (simp only [Option.some.injEq] at hb
         refine eql_of_equal (g0 (by simp) (by simp)) rfl rfl (c := c) ?_ hop
         subst hb
         unfold Op.equal Op.maxDepth Op.equalIn
         rw [Sem.run_bind, run_underlying he, Result.andThen_ok]
         rfl)
  · cases hb

theorem un_sound {op : UnOp} {x v : AVal} {x' : Value} (hx : VR ρ ω x x') (h : unV op x = v) (hv : v ≠ .bad) : ∃ v', (Op.unary op x').run P w = .ok v' w ∧ VR ρ ω v v' := by
  unfold unV at h
  cases hx <;> cases op <;> first
    | exact absurd h.symm hv
    | (simp only at h
       first
         | (subst h; exact ⟨_, rfl, by first | exact .bool _ | (rw [wrapN_eq]; exact .int _ _)⟩)
         | (obtain ⟨v', h1, h2⟩ := intBits_sound (P := P) (w := w) (ρ := ρ) (ω := ω) h hv; exact ⟨v', by simpa [Op.unary] using h1, h2⟩))

theorem conv_sound {s d : TypeId} {k : IntKind} {x v : AVal} {x' : Value} (hs : ∃ k', P.underlying s = some (.int k')) (hd : P.underlying d = some (.int k)) (hx : VR ρ ω x x') (h : convV k x = v) (hv : v ≠ .bad) :
    ∃ v', (convert s d x').run P w = .ok v' w ∧ VR ρ ω v v' := by
  obtain ⟨k', hs⟩ := hs
  unfold convV at h
  cases hx with
  | int l n =>
    simp only at h
    subst h
    refine ⟨.int k (k.wrap n), ?_, by rw [wrapN_eq]; exact .int _ _⟩
    unfold convert
    rw [Sem.run_bind, run_underlying hs, Result.andThen_ok, Sem.run_bind, run_underlying hd, Result.andThen_ok]
    rfl
  | _ => exact absurd h.symm hv

theorem pick_sound {c a b v : AVal} {c' a' b' : Value} (hc : VR ρ ω c c') (ha : VR ρ ω a a') (hb : VR ρ ω b b') (h : pickV c a b = v) (hv : v ≠ .bad) :
    ∃ v', (do pure (Next.value (if ← asBool c' then a' else b')) : Sem Next).run P w = .ok (.value v') w ∧ VR ρ ω v v' := by
  unfold pickV at h
  cases hc <;> first
    | exact absurd h.symm hv
    | (rename_i t
       cases t
       · exact ⟨b', rfl, by rw [← h]; exact hb⟩
       · exact ⟨a', rfl, by rw [← h]; exact ha⟩)

theorem nilc_sound {x v : AVal} {x' : Value} (hx : VR ρ ω x x') (h : nilcV x = v) (hv : v ≠ .bad) {o : Oper} {xo : Operand} {ev : Operand → Value} (ho : o.op = .nilCheck xo) (hev : ev xo = x') :
    ∃ v', (execOp ev o).run P w = .ok (.value v') w ∧ VR ρ ω v v' := by
  unfold nilcV at h
  cases hx with
  | ptr id off i hi => exact ⟨_, by simp only [execOp, ho, hev, Sem.run_pure]; rfl, by rw [← h]; exact .ptr id off i hi⟩
  | fnv f caps cs hcs => exact ⟨_, by simp only [execOp, ho, hev, Sem.run_pure]; rfl, by rw [← h]; exact .fnv f caps cs hcs⟩
  | _ => exact absurd h.symm hv

theorem faddr_sound {s : TypeId} {fi : Nat} {f : Field} (hf : tField P s fi = some f) {z : Nat} (hz : tSize P f.type = some z) (hnz : z ≠ 0) {x v : AVal} {x' : Value} (hx : VR ρ ω x x') (h : faddrV f.offset x = v) (hv : v ≠ .bad) :
    ∃ v', (Instr.fieldAt s x' fi).run P w = .ok v' w ∧ VR ρ ω v v' := by
  unfold faddrV at h
  cases hx with
  | ptr id off i hi =>
    subst h
    have h2 := VR.ptr (ρ := ρ) (ω := ω) id (Nat.add off f.offset) i hi
    refine ⟨_, ?_, h2⟩
    unfold tField at hf
    cases hu : P.underlying s with
    | none => rw [hu] at hf; cases hf
    | some d =>
      rw [hu] at hf
      cases d with
      | struct fs =>
        simp only at hf
        unfold Instr.fieldAt
        rw [Sem.run_bind, run_underlying hu, Result.andThen_ok]
        simp only [hf, Instr.sureAddr, fieldPlace, Sem.run_bind, Sem.run_pure, Result.andThen_ok, run_size hz, if_neg hnz, addr_add]
        rw [Nat.add_assoc]
        rfl
      | _ => cases hf
  | _ => exact absurd h.symm hv

theorem idx_lt {j n : Nat} (h : Nat.blt j n = true) : j < n := Nat.le_of_ble_eq_true h

theorem iaddr_sound {t e : TypeId} {s : Nat} (ht : tElem P t = some e) (hs : tSize P e = some s) {x i v : AVal} {x' i' : Value} (hx : VR ρ ω x x') (hi : VR ρ ω i i') (h : iaddrV s x i = v) (hv : v ≠ .bad) :
    ∃ v', (Instr.indexAt t x' i').run P w = .ok v' w ∧ VR ρ ω v v' := by
  have hu : P.underlying t = some (.slice e) := by
    unfold tElem at ht
    split at ht
    · rename_i e' he; simp only [Option.some.injEq] at ht; subst ht; exact he
    · cases ht
  unfold iaddrV at h
  cases hi with
  | int k n => cases n with
    | negSucc n => exact absurd h.symm hv
    | ofNat j =>
      simp only at h
      have run : ∀ (a : Addr) (len cap : Nat), j < len → (Instr.indexAt t (.slice (some a) len cap) (.int k (Int.ofNat j))).run P w = .ok (.pointer (some (a.add (j * s)))) w := by
        intro a len cap hlt
        unfold Instr.indexAt
        simp only [asIntOf, Sem.run_bind, Sem.run_pure, Result.andThen_ok, run_underlying hu, Bool.and_false, Sem.run_ite]
        rw [if_pos (by simp only [Int.ofNat_eq_natCast]; omega)]
        simp only [run_size hs, Result.andThen_ok, Int.ofNat_eq_natCast, Int.toNat_natCast]
      cases hx with
      | sl id off len cap q hq =>
        simp only at h
        cases hb : Nat.blt j len with
        | false => rw [hb] at h; exact absurd h.symm hv
        | true =>
          rw [hb] at h
          simp only [cond] at h
          subst h
          refine ⟨_, run _ len cap (idx_lt hb), ?_⟩
          rw [addr_add, Nat.add_assoc]
          exact .ptr id (off + j * s) q hq
      | sg id off len esz cap q hq hl hr =>
        simp only at h
        cases hb : Nat.blt j len with
        | false => rw [hb] at h; exact absurd h.symm hv
        | true =>
          rw [hb] at h
          simp only [cond] at h
          subst h
          refine ⟨_, run _ len cap (idx_lt hb), ?_⟩
          rw [addr_add, Nat.add_assoc]
          exact .ptr id (off + j * s) q hq
      | _ => exact absurd h.symm hv
  | _ => exact absurd h.symm hv

theorem arr_of {t : TypeId} {n : Nat} {e : TypeId} (ht : tArr P t = some (n, e)) : P.underlying t = some (.array n e) := by
  unfold tArr at ht
  split at ht
  · rename_i n' e' he; simp only [Option.some.injEq, Prod.mk.injEq] at ht; obtain ⟨rfl, rfl⟩ := ht; exact he
  · cases ht

theorem iaddrA_sound {t e : TypeId} {n s : Nat} (ht : tArr P t = some (n, e)) (hs : tSize P e = some s) {x i v : AVal} {x' i' : Value} (hx : VR ρ ω x x') (hi : VR ρ ω i i') (h : iaddrAV n s x i = v) (hv : v ≠ .bad) :
    ∃ v', (Instr.indexAt t x' i').run P w = .ok v' w ∧ VR ρ ω v v' := by
  have hu := arr_of ht
  unfold iaddrAV at h
  cases hi with
  | int k m => cases m with
    | negSucc m => exact absurd h.symm hv
    | ofNat j =>
      simp only at h
      cases hx with
      | ptr id off q hq =>
        simp only at h
        cases hb : Nat.blt j n with
        | false => rw [hb] at h; exact absurd h.symm hv
        | true =>
          rw [hb] at h
          simp only [cond] at h
          subst h
          refine ⟨.pointer (some ⟨q.blk, q.base + (off + j * s), none⟩), ?_, .ptr id (off + j * s) q hq⟩
          unfold Instr.indexAt
          simp only [asIntOf, Sem.run_bind, Sem.run_pure, Result.andThen_ok, run_underlying hu, Instr.sureAddr, Sem.run_ite]
          rw [if_pos (by have := idx_lt hb; simp only [Int.ofNat_eq_natCast]; omega)]
          simp only [run_size hs, Result.andThen_ok, Int.ofNat_eq_natCast, Int.toNat_natCast, addr_add, Nat.add_assoc]
      | _ => exact absurd h.symm hv
  | _ => exact absurd h.symm hv

/-- a part of an aggregate -/
theorem part_sound {t : TypeId} {agg : Bool} {sz : Nat} (hagg : tAgg P t = some agg) (hsz : tSize P t = some sz) {l : List AVal} {vs : List Value} (hl : All2 (VR ρ ω) l vs) (hone : ∀ v ∈ vs, v.oneCell' = true)
    {off : Nat} {v : AVal} (h : single agg (takeN sz (dropN off l)) = v) (hv : v ≠ .bad) : ∃ v', (part t vs.toArray off).run P w = .ok v' w ∧ VR ρ ω v v' := by
  obtain ⟨c, hc, hr⟩ := single_some h hv
  rw [dropN_eq] at hc
  obtain ⟨e1, e2⟩ := takeN_some hc
  have h2 : All2 (VR ρ ω) c ((vs.drop off).take sz) := by rw [e1]; exact (hl.drop _).take _
  rcases hr with ⟨rfl, rfl⟩ | ⟨rfl, rfl⟩
  · refine ⟨.agg ((vs.drop off).take sz).toArray, ?_, .agg _ _ h2 fun u hu => hone u (List.mem_of_mem_drop (List.mem_of_mem_take hu))⟩
    unfold part
    rw [Sem.run_bind, run_isAgg hagg, Result.andThen_ok, if_pos rfl, Sem.run_bind, run_size hsz, Result.andThen_ok, Sem.run_pure]
    congr 2
    apply Array.ext'
    simp
  · obtain ⟨u, hu, hvu⟩ := h2.get 0 v rfl
    refine ⟨u, ?_, hvu⟩
    have hu' : vs[off]? = some u := by
      rw [List.getElem?_take] at hu
      split at hu
      · rw [List.getElem?_drop] at hu; simpa using hu
      · cases hu
    unfold part
    rw [Sem.run_bind, run_isAgg hagg, Result.andThen_ok]
    simp only [Bool.false_eq_true, if_false, List.getElem?_toArray, hu']
    rfl

theorem fld_sound {s : TypeId} {fi : Nat} {f : Field} (hf : tField P s fi = some f) {agg : Bool} {sz : Nat} (hagg : tAgg P f.type = some agg) (hsz : tSize P f.type = some sz) {x v : AVal} {x' : Value}
    (hx : VR ρ ω x x') (h : fldV agg f.offset sz x = v) (hv : v ≠ .bad) : ∃ v', (Instr.field s x' fi).run P w = .ok v' w ∧ VR ρ ω v v' := by
  unfold fldV at h
  cases hx with
  | agg l vs hl hc =>
    obtain ⟨v', h1, h2⟩ := part_sound (w := w) hagg hsz hl hc h hv
    refine ⟨v', ?_, h2⟩
    unfold tField at hf
    cases hu : P.underlying s with
    | none => rw [hu] at hf; cases hf
    | some d =>
      rw [hu] at hf
      cases d with
      | struct fs =>
        simp only at hf
        unfold Instr.field
        rw [Sem.run_bind, run_underlying hu, Result.andThen_ok]
        simp only [hf, asAgg, Sem.run_bind, Sem.run_pure, Result.andThen_ok]
        exact h1
      | _ => cases hf
  | _ => exact absurd h.symm hv

theorem idxA_sound {t e : TypeId} {n s : Nat} {agg : Bool} (ht : tArr P t = some (n, e)) (hs : tSize P e = some s) (hagg : tAgg P e = some agg) {x i v : AVal} {x' i' : Value} (hx : VR ρ ω x x') (hi : VR ρ ω i i')
    (h : idxAV agg n s x i = v) (hv : v ≠ .bad) : ∃ v', (Instr.index t x' i').run P w = .ok v' w ∧ VR ρ ω v v' := by
  have hu := arr_of ht
  unfold idxAV at h
  cases hi with
  | int k m => cases m with
    | negSucc m => exact absurd h.symm hv
    | ofNat j =>
      simp only at h
      cases hx with
      | agg l vs hl hc =>
        simp only at h
        cases hb : Nat.blt j n with
        | false => rw [hb] at h; exact absurd h.symm hv
        | true =>
          rw [hb] at h
          simp only [cond] at h
          obtain ⟨v', h1, h2⟩ := part_sound (w := w) hagg hs hl hc h hv
          refine ⟨v', ?_, h2⟩
          unfold Instr.index
          simp only [asIntOf, Sem.run_bind, Sem.run_pure, Result.andThen_ok, run_underlying hu, Sem.run_ite]
          rw [if_pos (by have := idx_lt hb; simp only [Int.ofNat_eq_natCast]; omega)]
          simp only [run_size hs, Result.andThen_ok, Int.ofNat_eq_natCast, Int.toNat_natCast]
          exact h1
      | _ => exact absurd h.symm hv
  | _ => exact absurd h.symm hv

theorem extract_sound {x v : AVal} {x' : Value} {i : Nat} (hx : VR ρ ω x x') (h : extractV x i = v) (hv : v ≠ .bad) : ∃ v', (Instr.extract x' i).run P w = .ok v' w ∧ VR ρ ω v v' := by
  unfold extractV at h
  cases hx with
  | tup l vs hl =>
    simp only at h
    cases hq : l[i]? with
    | none => rw [hq] at h; exact absurd h.symm hv
    | some u =>
      rw [hq] at h
      simp only at h
      subst h
      obtain ⟨u', h1, h2⟩ := hl.get i u hq
      refine ⟨u', ?_, h2⟩
      unfold Instr.extract
      simp only [List.getElem?_toArray, h1]
      rfl
  | _ => exact absurd h.symm hv
end Go.Ex

namespace Go.Ex
open Go
variable {P : Program} {ρ : Pth → Option BI} {ω : Nat → Value} {H : AH} {w : World}

theorem elem_of {t e : TypeId} (ht : tElem P t = some e) : P.underlying t = some (.slice e) := by
  unfold tElem at ht
  split at ht
  · rename_i e' he; simp only [Option.some.injEq] at ht; subst ht; exact he
  · cases ht

/-! ### cuts of slices -/
theorem natOf_sound {x : AVal} {x' : Value} {n : Nat} (hx : VR ρ ω x x') (h : natOf x = some n) : ∃ k, x' = .int k n := by
  unfold natOf at h
  split at h
  · rename_i k m
    simp only [Option.some.injEq] at h
    subst h
    cases hx
    exact ⟨k, rfl⟩
  · cases h

theorem sliceBound_nat {k : IntKind} {n y : Nat} {code : BoundsCode} (h : n ≤ y) : (Instr.sliceBound (.int k n) y code).run P w = .ok n w := by
  unfold Instr.sliceBound
  simp only [asIntOf, Sem.run_bind, Sem.run_pure, Result.andThen_ok, Sem.run_ite]
  rw [if_pos (by omega)]
  simp

/-- what stands for the low and the high bound -/
def loOk (lo : Option Value) (l : Nat) : Prop := (lo = none ∧ l = 0) ∨ ∃ k, lo = some (.int k l)
def hiOk (hi : Option Value) (h : Option Nat) : Prop := (hi = none ∧ h = none) ∨ ∃ (k : IntKind) (n : Nat), hi = some (.int k n) ∧ h = some n

theorem bounds_run {lo hi : Option Value} {l : Nat} {h : Option Nat} (hlo : loOk lo l) (hhi : hiOk hi h) {len cap : Nat} (h1 : l ≤ h.getD len) (h2 : h.getD len ≤ cap) (h3 : len ≤ cap ∨ h ≠ none) :
    (Instr.sliceBounds true len cap lo hi none).run P w = .ok (l, h.getD len, cap) w := by
  unfold Instr.sliceBounds
  rcases hhi with ⟨rfl, rfl⟩ | ⟨k, n, rfl, rfl⟩
  · rcases hlo with ⟨rfl, rfl⟩ | ⟨kl, rfl⟩
    · rfl
    · simp only [Option.getD_none] at h1
      simp only [Option.isSome_none, Bool.false_eq_true, if_false, Sem.run_bind, Sem.run_pure, Result.andThen_ok, sliceBound_nat h1, Option.getD_none]
  · simp only [Option.getD_some] at h1 h2
    rcases hlo with ⟨rfl, rfl⟩ | ⟨kl, rfl⟩
    · simp only [if_true, Sem.run_bind, Sem.run_pure, Result.andThen_ok, sliceBound_nat h2, Option.getD_some]
    · simp only [Option.isSome_none, Bool.false_eq_true, if_true, if_false, Sem.run_bind, Sem.run_pure, Result.andThen_ok, sliceBound_nat h2, sliceBound_nat h1, Option.getD_some]

theorem sliceAt_run {t e : TypeId} {s : Nat} (ht : tElem P t = some e) (hs : tSize P e = some s) {lo hi : Option Value} {l : Nat} {h : Option Nat} (hlo : loOk lo l) (hhi : hiOk hi h) {a : Option Addr} {len cap : Nat}
    (h1 : l ≤ h.getD len) (h2 : h.getD len ≤ cap) (h3 : len ≤ cap ∨ h ≠ none) :
    (Instr.sliceAt t (.slice a len cap) lo hi none).run P w = .ok (.slice (if cap = l then a else a.map (·.add (l * s))) (h.getD len - l) (cap - l)) w := by
  have hu := elem_of ht
  unfold Instr.sliceAt
  rw [Sem.run_bind, run_underlying hu, Result.andThen_ok]
  unfold Instr.slice
  rw [Sem.run_bind, run_underlying hu, Result.andThen_ok]
  simp only [Sem.run_bind, bounds_run hlo hhi h1 h2 h3, Result.andThen_ok, run_size hs, Sem.run_pure]

theorem slcV_sound {t e : TypeId} {s : Nat} (ht : tElem P t = some e) (hs : tSize P e = some s) {lo hi : Option Value} {l : Nat} {h : Option Nat} (hlo : loOk lo l) (hhi : hiOk hi h) {x v : AVal} {x' : Value}
    (hx : VR ρ ω x x') (hv0 : slcV s x l h = v) (hv : v ≠ .bad) : ∃ v', (Instr.sliceAt t x' lo hi none).run P w = .ok v' w ∧ VR ρ ω v v' := by
  unfold slcV at hv0
  cases hx with
  | sl id off len cap i hi' =>
    simp only at hv0
    cases hb : (Nat.ble l (h.getD len) && Nat.ble (h.getD len) cap) with
    | false => rw [hb] at hv0; exact absurd hv0.symm hv
    | true =>
      rw [hb] at hv0
      simp only [cond] at hv0
      rw [Bool.and_eq_true] at hb
      have b1 := Nat.le_of_ble_eq_true hb.1
      have b2 := Nat.le_of_ble_eq_true hb.2
      have h3 : len ≤ cap ∨ h ≠ none := by
        cases h with
        | none => exact .inl b2
        | some n => exact .inr (by simp)
      subst hv0
      refine ⟨_, sliceAt_run ht hs hlo hhi b1 b2 h3, ?_⟩
      by_cases hc : cap = l
      · have hbeq : Nat.beq cap l = true := by rw [Nat.beq_eq]; exact hc
        rw [if_pos hc, hbeq]
        exact .sl id off _ _ i hi'
      · have hbeq : Nat.beq cap l = false := by
          cases hq : Nat.beq cap l with
          | false => rfl
          | true => exact absurd (Nat.eq_of_beq_eq_true hq) hc
        rw [if_neg hc, hbeq]
        simp only [Option.map_some, addr_add, Nat.add_assoc]
        exact .sl id (off + l * s) _ _ i hi'
  | sg id off len ez cap i hi' hl hlim =>
    simp only at hv0
    cases hb : (Nat.beq s ez && (Nat.ble l (h.getD len) && Nat.ble (h.getD len) len)) with
    | false => rw [hb] at hv0; exact absurd hv0.symm hv
    | true =>
      rw [hb] at hv0
      simp only [cond] at hv0
      rw [Bool.and_eq_true, Bool.and_eq_true] at hb
      obtain rfl := Nat.eq_of_beq_eq_true hb.1
      have b1 := Nat.le_of_ble_eq_true hb.2.1
      have b2 := Nat.le_of_ble_eq_true hb.2.2
      refine ⟨_, sliceAt_run ht hs hlo hhi b1 (by omega) (.inl hl), ?_⟩
      cases hlt : Nat.blt l len with
      | true =>
        rw [hlt] at hv0
        simp only at hv0
        have hll : l < len := idx_lt hlt
        subst hv0
        rw [if_neg (by omega)]
        simp only [Option.map_some, addr_add, Nat.add_assoc]
        refine .sg id (off + l * s) _ s (cap - l) i hi' (by show h.getD len - l ≤ cap - l; omega) ?_
        rw [Nat.sub_mul]
        have : l * s ≤ cap * s := Nat.mul_le_mul_right _ (by omega)
        omega
      | false =>
        rw [hlt] at hv0
        simp only at hv0
        cases h0 : Nat.beq l 0 with
        | true =>
          rw [h0] at hv0
          simp only at hv0
          obtain rfl := Nat.eq_of_beq_eq_true h0
          have hln : len = 0 := by
            rcases Nat.eq_zero_or_pos len with e | e
            · exact e
            · have : Nat.blt 0 len = true := Nat.ble_eq_true_of_le e
              rw [this] at hlt; cases hlt
          subst hv0
          have hg : h.getD len = 0 := by omega
          rw [hg]
          have haddr : (if cap = 0 then some (⟨i.blk, i.base + off, none⟩ : Addr) else Option.map (fun (x : Addr) => x.add (0 * s)) (some ⟨i.blk, i.base + off, none⟩)) = some ⟨i.blk, i.base + off, none⟩ := by
            split
            · rfl
            · simp [addr_add]
          rw [haddr]
          exact .sg id off 0 s (cap - 0) i hi' (by omega) (by simpa using hlim)
        | false =>
          rw [h0] at hv0
          simp only at hv0
          subst hv0
          have hge : len ≤ l := by
            rcases Nat.lt_or_ge l len with e | e
            · have : Nat.blt l len = true := Nat.ble_eq_true_of_le e
              rw [this] at hlt; cases hlt
            · exact e
          have hz : h.getD len - l = 0 := by omega
          rw [hz]
          have haddr : ∃ b, (if cap = l then some (⟨i.blk, i.base + off, none⟩ : Addr) else Option.map (fun (x : Addr) => x.add (l * s)) (some ⟨i.blk, i.base + off, none⟩)) = some b := by
            split
            · exact ⟨_, rfl⟩
            · exact ⟨_, rfl⟩
          obtain ⟨b, hb'⟩ := haddr
          rw [hb']
          exact .se b _
  | snil =>
    simp only at hv0
    cases hb : (Nat.beq l 0 && Nat.beq (h.getD 0) 0) with
    | false => rw [hb] at hv0; exact absurd hv0.symm hv
    | true =>
      rw [hb] at hv0
      simp only [cond] at hv0
      subst hv0
      rw [Bool.and_eq_true] at hb
      obtain rfl := Nat.eq_of_beq_eq_true hb.1
      have b2 : h.getD 0 = 0 := Nat.eq_of_beq_eq_true hb.2
      refine ⟨_, sliceAt_run ht hs hlo hhi (by omega) (by omega) (.inl (Nat.le_refl 0)), ?_⟩
      rw [b2]
      exact .snil
  | se a cap =>
    simp only at hv0
    cases hb : (Nat.beq l 0 && Nat.beq (h.getD 0) 0) with
    | false => rw [hb] at hv0; exact absurd hv0.symm hv
    | true =>
      rw [hb] at hv0
      simp only [cond] at hv0
      subst hv0
      rw [Bool.and_eq_true] at hb
      obtain rfl := Nat.eq_of_beq_eq_true hb.1
      have b2 : h.getD 0 = 0 := Nat.eq_of_beq_eq_true hb.2
      refine ⟨_, sliceAt_run ht hs hlo hhi (by omega) (by omega) (.inl (Nat.zero_le _)), ?_⟩
      rw [b2]
      have haddr : ∃ b, (if cap = 0 then some a else Option.map (fun (x : Addr) => x.add (0 * s)) (some a)) = some b := by
        split
        · exact ⟨_, rfl⟩
        · exact ⟨_, rfl⟩
      obtain ⟨b, hb'⟩ := haddr
      rw [hb']
      exact .se b _
  | _ => exact absurd hv0.symm hv
end Go.Ex

namespace Go.Ex
open Go
variable {P : Program} {ρ : Pth → Option BI} {ω : Nat → Value} {H : AH} {w : World}

theorem lenV_sound {x : AVal} {x' : Value} {n : Nat} (hx : VR ρ ω x x') (h : lenV x = some n) : ∃ b c, x' = .slice b n c := by
  unfold lenV at h
  cases hx <;> first
    | (cases h; done)
    | (simp only [Option.some.injEq] at h; subst h; exact ⟨_, _, rfl⟩)

theorem len_sound {t e ty : TypeId} (ht : tElem P t = some e) {x v : AVal} {x' : Value} (hx : VR ρ ω x x') (h : lenOf x = v) (hv : v ≠ .bad) :
    ∃ v', (Builtin.len_ #[t] ty #[x']).run P w = .ok v' w ∧ VR ρ ω v v' := by
  unfold lenOf at h
  cases hl : lenV x with
  | none => rw [hl] at h; exact absurd h.symm hv
  | some n =>
    rw [hl] at h
    simp only at h
    subst h
    obtain ⟨b, c, rfl⟩ := lenV_sound hx hl
    refine ⟨goInt n, ?_, .int _ _⟩
    simp [Builtin.len_, run_underlying (elem_of ht)]

theorem lens_sound {t ty : TypeId} (ht : P.underlying t = some .string) {x v : AVal} {x' : Value} (hx : VR ρ ω x x') (h : lensOf x = v) (hv : v ≠ .bad) :
    ∃ v', (Builtin.len_ #[t] ty #[x']).run P w = .ok v' w ∧ VR ρ ω v v' := by
  unfold lensOf at h
  cases hx with
  | str s =>
    simp only at h
    subst h
    refine ⟨goInt s.size, ?_, .int _ _⟩
    simp [Builtin.len_, run_underlying ht]
  | _ => exact absurd h.symm hv

theorem max2_sound {x y v : AVal} {x' y' : Value} (hx : VR ρ ω x x') (hy : VR ρ ω y y') (h : max2 x y = v) (hv : v ≠ .bad) : ∃ v', (Builtin.max2 x' y').run P w = .ok v' w ∧ VR ρ ω v v' := by
  unfold max2 at h
  cases hx with
  | int k m => cases hy with
    | int l n =>
      simp only at h
      cases hk : kindEq k l with
      | false => rw [hk] at h; exact absurd h.symm hv
      | true =>
        rw [hk] at h
        simp only [cond] at h
        subst h
        refine ⟨.int k (if n > m then n else m), rfl, ?_⟩
        rw [intLt_iff]
        by_cases hc : m < n
        · rw [if_pos hc, decide_eq_true hc]; exact .int _ _
        · rw [if_neg hc, decide_eq_false hc]; exact .int _ _
    | _ => exact absurd h.symm hv
  | _ => exact absurd h.symm hv
theorem min2_sound {x y v : AVal} {x' y' : Value} (hx : VR ρ ω x x') (hy : VR ρ ω y y') (h : min2 x y = v) (hv : v ≠ .bad) : ∃ v', (Builtin.min2 x' y').run P w = .ok v' w ∧ VR ρ ω v v' := by
  unfold min2 at h
  cases hx with
  | int k m => cases hy with
    | int l n =>
      simp only at h
      cases hk : kindEq k l with
      | false => rw [hk] at h; exact absurd h.symm hv
      | true =>
        rw [hk] at h
        simp only [cond] at h
        subst h
        refine ⟨.int k (if n < m then n else m), rfl, ?_⟩
        rw [intLt_iff]
        by_cases hc : n < m
        · rw [if_pos hc, decide_eq_true hc]; exact .int _ _
        · rw [if_neg hc, decide_eq_false hc]; exact .int _ _
    | _ => exact absurd h.symm hv
  | _ => exact absurd h.symm hv

theorem max2_bad (y : AVal) : max2 .bad y = .bad := by cases y <;> rfl
theorem min2_bad (y : AVal) : min2 .bad y = .bad := by cases y <;> rfl
theorem foldV_bad {f : AVal → AVal → AVal} (hf : ∀ y, f .bad y = .bad) (l : List AVal) : foldV f .bad l = .bad := by
  induction l with
  | nil => rfl
  | cons a l ih => simp only [foldV, hf, ih]

theorem fold_sound {f : AVal → AVal → AVal} {g : Value → Value → Sem Value} (hb : ∀ y, f .bad y = .bad)
    (hfg : ∀ {x y v : AVal} {x' y' : Value}, VR ρ ω x x' → VR ρ ω y y' → f x y = v → v ≠ .bad → ∃ v', (g x' y').run P w = .ok v' w ∧ VR ρ ω v v') {l : List AVal} {vs : List Value} (hl : All2 (VR ρ ω) l vs) :
    ∀ {x v : AVal} {x' : Value}, VR ρ ω x x' → foldV f x l = v → v ≠ .bad → ∃ v', (vs.foldlM g x').run P w = .ok v' w ∧ VR ρ ω v v' := by
  induction hl with
  | nil => intro x v x' hx h hv; exact ⟨x', rfl, by rw [← h]; exact hx⟩
  | cons ha _ ih =>
    intro x v x' hx h hv
    rename_i a b l' r' _
    simp only [foldV] at h
    by_cases hbad : f x a = .bad
    · rw [hbad, foldV_bad hb] at h; exact absurd h.symm hv
    · obtain ⟨u, h1, h2⟩ := hfg hx ha rfl hbad
      obtain ⟨v', h3, h4⟩ := ih h2 h hv
      exact ⟨v', by rw [List.foldlM_cons, Sem.run_bind, h1, Result.andThen_ok]; exact h3, h4⟩

theorem max_sound {ts : Array TypeId} {ty : TypeId} {l : List AVal} {vs : List Value} {v : AVal} (hl : All2 (VR ρ ω) l vs) (h : maxV l = v) (hv : v ≠ .bad) : ∃ v', (Builtin.max_ ts ty vs.toArray).run P w = .ok v' w ∧ VR ρ ω v v' := by
  cases hl with
  | nil => exact absurd h.symm hv
  | cons ha ht => exact fold_sound (g := Builtin.max2) max2_bad max2_sound ht ha h hv
theorem min_sound {ts : Array TypeId} {ty : TypeId} {l : List AVal} {vs : List Value} {v : AVal} (hl : All2 (VR ρ ω) l vs) (h : minV l = v) (hv : v ≠ .bad) : ∃ v', (Builtin.min_ ts ty vs.toArray).run P w = .ok v' w ∧ VR ρ ω v v' := by
  cases hl with
  | nil => exact absurd h.symm hv
  | cons ha ht => exact fold_sound (g := Builtin.min2) min2_bad min2_sound ht ha h hv

theorem idxS_sound {t : TypeId} (ht : P.underlying t = some .string) {x i v : AVal} {x' i' : Value} (hx : VR ρ ω x x') (hi : VR ρ ω i i') (h : idxSV x i = v) (hv : v ≠ .bad) : ∃ v', (Instr.index t x' i').run P w = .ok v' w ∧ VR ρ ω v v' := by
  unfold idxSV at h
  cases hi with
  | int k m => cases m with
    | negSucc m => exact absurd h.symm hv
    | ofNat j =>
      simp only at h
      cases hx with
      | str s =>
        simp only at h
        cases hq : s.data.toList[j]? with
        | none => rw [hq] at h; exact absurd h.symm hv
        | some b =>
          rw [hq] at h
          simp only at h
          subst h
          refine ⟨.int .u8 b.toNat, ?_, .int _ _⟩
          have hj : j < s.data.toList.length := (List.getElem?_eq_some_iff.1 hq).1
          have hj' : j < s.size := by simpa using hj
          have hget : s[j]? = some b := by
            have h1 : s[j]? = some s[j] := by simp [getElem?_pos, hj']
            rw [h1]
            have h2 := (List.getElem?_eq_some_iff.1 hq).2
            rw [← h2]
            rfl
          unfold Instr.index
          simp only [asIntOf, Sem.run_bind, Sem.run_pure, Result.andThen_ok, run_underlying ht]
          rw [if_pos (by simp only [Int.ofNat_eq_natCast]; omega)]
          simp only [Int.ofNat_eq_natCast, Int.toNat_natCast, hget, Sem.run_pure]
      | _ => exact absurd h.symm hv
  | _ => exact absurd h.symm hv
end Go.Ex

namespace Go.Ex
open Go
variable {P : Program} {ρ : Pth → Option BI} {ω : Nat → Value} {H : AH} {w : World}

theorem scalarOf_cells {v : Value} {x : AVal} (h : scalarOf v = some x) : x.cells = [x] ∧ v.cells = #[v] := by
  unfold scalarOf at h
  split at h <;> first
    | (simp only [Option.some.injEq] at h; subst h; exact ⟨rfl, rfl⟩)
    | cases h

theorem ofValue_cells {v : Value} {x : AVal} (h : ofValue v = some x) : All2 (VR ρ ω) x.cells v.cells.toList ∧ ∀ u ∈ v.cells.toList, u.oneCell' = true := by
  unfold ofValue at h
  split at h
  · rename_i cs
    simp only [Option.map_eq_some_iff] at h
    obtain ⟨l, hl, rfl⟩ := h
    exact scalars_sound hl
  · obtain ⟨h1, h2⟩ := scalarOf_cells h
    obtain ⟨h3, h4⟩ := scalarOf_sound (ρ := ρ) (ω := ω) h
    rw [h1, h2]
    exact ⟨.cons h3 .nil, by simpa using h4⟩

theorem tZero_some {t : TypeId} {z : AVal} (h : tZero P t = some z) : ∃ it zv, P.info? t = some it ∧ it.zero = some zv ∧ ofValue zv = some z := by
  unfold tZero at h
  rw [Option.bind_eq_some_iff] at h
  obtain ⟨zv, h1, h2⟩ := h
  rw [Option.bind_eq_some_iff] at h1
  obtain ⟨it, h3, h4⟩ := h1
  exact ⟨it, zv, h3, h4, h2⟩
theorem tSize_some {t : TypeId} {n : Nat} (h : tSize P t = some n) : ∃ it, P.info? t = some it ∧ it.size = n := by
  unfold tSize at h
  rw [Option.map_eq_some_iff] at h
  exact h

/-! ### 'fill' -/
theorem zipIdx_foldl (off : Nat) : ∀ (l : List Value) (k : Nat) (cells : Array Value), off + k + l.length ≤ cells.size →
    (l.zipIdx k).foldl (fun cs (x : Value × Nat) => cs.setIfInBounds (off + x.2) x.1) cells = splice cells (off + k) l
  | [], k, cells, h => by
    simp only [List.zipIdx_nil, List.foldl_nil, splice, List.append_nil, List.length_nil, Nat.add_zero, List.take_append_drop, Array.toArray_toList]
  | v :: l, k, cells, h => by
    simp only [List.length_cons] at h
    simp only [List.zipIdx_cons, List.foldl_cons]
    rw [zipIdx_foldl off l (k + 1) _ (by simp; omega)]
    apply Array.ext_getElem?
    intro q
    rw [splice_get (by simp; omega), splice_get (by simp; omega)]
    simp only [List.length_cons]
    by_cases h1 : q < off + k
    · rw [if_pos (by omega), if_pos h1, Array.getElem?_setIfInBounds_ne (by omega)]
    · rw [if_neg h1]
      by_cases h2 : q = off + k
      · subst h2
        rw [if_pos (by omega), if_pos (by omega)]
        rw [Array.getElem?_setIfInBounds_self_of_lt (by omega)]
        simp
      · rw [if_neg (by omega)]
        by_cases h3 : q < off + (k + 1) + l.length
        · rw [if_pos h3, if_pos (by omega)]
          rw [show q - (off + k) = (q - (off + (k + 1))) + 1 by omega, List.getElem?_cons_succ]
        · rw [if_neg h3, if_neg (by omega), Array.getElem?_setIfInBounds_ne (by omega)]

theorem splice_list {c : Array Value} {o : Nat} {vs : List Value} : (splice c o vs).toList = c.toList.take o ++ vs ++ c.toList.drop (o + vs.length) := by simp [splice]

variable {N : Nat} {S : List (Nat × Pth)} {G : Ctx} {L : List AVal} {e : T8 AVal} {a : Act}

theorem fill_sound (hω : ∀ i, (ω i).oneCell' = true) (hg : GlobOk P ρ) (he : EnvOk ρ ω S e a.tmps) (hc : CtxOk ρ ω G L e a.tmps) {fs place : Nat → Option (Nat × Nat)} (hfs : ∀ i q, fs i = some q → place i = some q) :
    ∀ (ps : List (Nat × Operand)) (parts : List (Nat × Nat × COpd)) (z : List AVal) (cells : Array Value) (v : AVal), cParts P N S G fs ps = some parts → All2 (VR ρ ω) z cells.toList → (∀ u ∈ cells.toList, u.oneCell' = true) →
      buildV L e z parts = v → v ≠ .bad → ∃ cells', Instr.fill place cells (ps.map fun (i, x) => (i, a.eval x)) = some cells' ∧ VR ρ ω v (.agg cells')
  | [], parts, z, cells, v, hp, hz, hone, hb, hv => by
    simp only [cParts, Option.some.injEq] at hp
    subst hp
    simp only [buildV] at hb
    subst hb
    exact ⟨cells, rfl, by have := VR.agg (ρ := ρ) (ω := ω) z cells.toList hz hone; simpa using this⟩
  | (i, x) :: ps, parts, z, cells, v, hp, hz, hone, hb, hv => by
    simp only [cParts, Option.bind_eq_some_iff] at hp
    obtain ⟨⟨o, s⟩, h1, hp⟩ := hp
    obtain ⟨cx, h2, hp⟩ := hp
    obtain ⟨r, h3, h4⟩ := hp
    simp only [Option.some.injEq] at h4
    subst h4
    simp only [buildV] at hb
    cases hl : (Nat.blt 0 s && lenIs (cx.ev L e).cells s) with
    | false => rw [hl] at hb; exact absurd hb.symm hv
    | true =>
      rw [hl] at hb
      simp only [cond] at hb
      rw [Bool.and_eq_true] at hl
      have hpos : 0 < s := idx_lt hl.1
      have hlen := lenIs_iff hl.2
      have hx := cOpd_sound hg he hc h2
      obtain ⟨hcs, hco⟩ := cells_sound hω hx (by intro e; rw [e] at hlen; simp at hlen; omega)
      cases hov : overAt o (cx.ev L e).cells z with
      | none => rw [hov] at hb; exact absurd hb.symm hv
      | some z' =>
        rw [hov] at hb
        simp only at hb
        obtain ⟨e1, e2⟩ := overAt_some hov
        have hvs : (a.eval x).cells.size = s := by
          have := hcs.length
          rw [hlen] at this
          simpa using this.symm
        have hfit : o + (a.eval x).cells.size ≤ cells.size := by
          have := hz.length
          rw [hvs]
          have h5 : cells.toList.length = cells.size := by simp
          omega
        have hfold : (a.eval x).cells.zipIdx.foldl (fun cs (c, j) => cs.setIfInBounds (o + j) c) cells = splice cells o (a.eval x).cells.toList := by
          rw [← Array.foldl_toList, Array.toList_zipIdx]
          exact zipIdx_foldl o _ 0 cells (by simpa using hfit)
        have hz' : All2 (VR ρ ω) z' (splice cells o (a.eval x).cells.toList).toList := by
          rw [e1, splice_list]
          have h6 : (a.eval x).cells.toList.length = (cx.ev L e).cells.length := hcs.length.symm
          rw [h6]
          exact ((hz.take _).append hcs).append (hz.drop _)
        have hone' : ∀ u ∈ (splice cells o (a.eval x).cells.toList).toList, u.oneCell' = true := by
          intro u hu
          rw [splice_list] at hu
          simp only [List.mem_append] at hu
          rcases hu with (hu | hu) | hu
          · exact hone u (List.mem_of_mem_take hu)
          · exact hco u hu
          · exact hone u (List.mem_of_mem_drop hu)
        obtain ⟨cells', h7, h8⟩ := fill_sound hω hg he hc hfs ps r z' _ v h3 hz' hone' hb hv
        refine ⟨cells', ?_, h8⟩
        simp only [List.map_cons, Instr.fill, hfs i _ h1, hvs]
        have hcond : ((s != s) || decide (o + s > cells.size)) = false := by
          rw [hvs] at hfit
          simp only [bne_self_eq_false, Bool.false_or, decide_eq_false_iff_not]
          omega
        rw [if_neg (by rw [hvs] at hfit; simp; omega)]
        rw [hfold]
        exact h7

theorem places_some {fs : List Field} (h : fs.all (fun f => (tSize P f.type).isSome) = true) : ∃ places, fs.mapM (fun f => (P.info? f.type).map fun i => (f.offset, i.size)) = some places ∧
    ∀ (i : Nat) (f : Field), fs[i]? = some f → ∃ s, tSize P f.type = some s ∧ places[i]? = some (f.offset, s) := by
  induction fs with
  | nil => exact ⟨[], rfl, by simp⟩
  | cons f fs ih =>
    rw [List.all_cons, Bool.and_eq_true] at h
    obtain ⟨places, h1, h2⟩ := ih h.2
    obtain ⟨s, hs⟩ := Option.isSome_iff_exists.1 h.1
    obtain ⟨it, hi, hsz⟩ := tSize_some hs
    refine ⟨(f.offset, s) :: places, ?_, ?_⟩
    · simp only [List.mapM_cons, hi, Option.map_some, h1, hsz]; rfl
    · intro i f' hf
      cases i with
      | zero => simp only [List.getElem?_cons_zero, Option.some.injEq] at hf; subst hf; exact ⟨s, hs, rfl⟩
      | succ i => simp only [List.getElem?_cons_succ] at hf ⊢; exact h2 i f' hf

theorem build_sound (hω : ∀ i, (ω i).oneCell' = true) (hg : GlobOk P ρ) (he : EnvOk ρ ω S e a.tmps) (hc : CtxOk ρ ω G L e a.tmps) {t : TypeId} {z v : AVal} (hz : tZero P t = some z) {fields : Array Field}
    (hu : P.underlying t = some (.struct fields)) (hall : fields.toList.all (fun f => (tSize P f.type).isSome) = true) {ps : Array (Nat × Operand)} {parts : List (Nat × Nat × COpd)}
    (hp : cParts P N S G (fun i => (fields[i]?).bind fun f => (tSize P f.type).map fun s => (f.offset, s)) ps.toList = some parts) (hb : buildV L e z.cells parts = v) (hv : v ≠ .bad) :
    ∃ v', (Instr.build t (ps.map fun (i, x) => (i, a.eval x))).run P w = .ok v' w ∧ VR ρ ω v v' := by
  obtain ⟨it, zv, hi, hzv, hof⟩ := tZero_some hz
  obtain ⟨hzc, hzo⟩ := ofValue_cells (ρ := ρ) (ω := ω) hof
  obtain ⟨places, hpl, hpi⟩ := places_some hall
  obtain ⟨cells', hf, hvr⟩ := fill_sound (place := (places.toArray[·]?)) hω hg he hc (fun i q hq => by
    rw [Option.bind_eq_some_iff] at hq
    obtain ⟨f, hf, hq⟩ := hq
    obtain ⟨s, hs, hps⟩ := hpi i f (by simpa using hf)
    rw [hs] at hq
    simp only [Option.map_some, Option.some.injEq] at hq
    subst hq
    simpa using hps) ps.toList parts z.cells zv.cells v hp hzc hzo hb hv
  refine ⟨.agg cells', run_build w t _ cells' ?_, hvr⟩
  unfold Program.built
  rw [hi, hu]
  simp only [hzv, hpl]
  rw [← hf]
  congr 1
  simp

theorem buildA_sound (hω : ∀ i, (ω i).oneCell' = true) (hg : GlobOk P ρ) (he : EnvOk ρ ω S e a.tmps) (hc : CtxOk ρ ω G L e a.tmps) {t el : TypeId} {n s : Nat} {z v : AVal} (hz : tZero P t = some z)
    (hu : P.underlying t = some (.array n el)) (hs : tSize P el = some s) {ps : Array (Nat × Operand)} {parts : List (Nat × Nat × COpd)}
    (hp : cParts P N S G (fun i => some (i * s, s)) ps.toList = some parts) (hb : buildV L e z.cells parts = v) (hv : v ≠ .bad) :
    ∃ v', (Instr.build t (ps.map fun (i, x) => (i, a.eval x))).run P w = .ok v' w ∧ VR ρ ω v v' := by
  obtain ⟨it, zv, hi, hzv, hof⟩ := tZero_some hz
  obtain ⟨ie, hie, hsz⟩ := tSize_some hs
  obtain ⟨hzc, hzo⟩ := ofValue_cells (ρ := ρ) (ω := ω) hof
  obtain ⟨cells', hf, hvr⟩ := fill_sound (place := fun i => some (i * s, s)) hω hg he hc (fun i q hq => hq) ps.toList parts z.cells zv.cells v hp hzc hzo hb hv
  refine ⟨.agg cells', run_build w t _ cells' ?_, hvr⟩
  unfold Program.built
  rw [hi, hu]
  simp only [hzv, hie, hsz]
  rw [← hf]
  congr 1
  simp
end Go.Ex

namespace Go.Ex
open Go
variable {P : Program} {ρ : Pth → Option BI} {ω : Nat → Value} {H : AH} {w : World}

/-- a new row of cells, and the array that stands for it -/
theorem newArr_step (hr : HR P ρ ω H w) {cells : Array Value} {T : TypeId} {esz n : Nat} {d : List AVal} {els : T8 (List AVal)}
    (ha : ArrOk ρ ω cells ⟨w.heap.size, 0, n * esz⟩ esz n d els) :
    Step P ρ ω H w (ext ρ H.next ⟨w.heap.size, 0, n * esz⟩) (H.add (.arr esz n d els)) (w.alloc (.cells cells T)) := by
  refine hr.add (i := ⟨w.heap.size, 0, n * esz⟩) rfl ⟨_, cells, T, ext_same _ _ _, ?_, ha.mono (sub_ext hr _)⟩
  show (w.heap.push _)[w.heap.size]? = _
  simp

theorem elem_nil (j : Nat) (d : List AVal) : elem j d .nil = d := by unfold elem; rw [get_nil]; rfl

theorem box_step (hω : ∀ i, (ω i).oneCell' = true) (hr : HR P ρ ω H w) {x v : AVal} {x' : Value} (hx : VR ρ ω x x') {H' : AH} (h : mkR H (boxV x H.next) = .ok v H') {T : TypeId} :
    ∃ ρ' v' w', (do pure (.pointer (some (← newVar T x'))) : Sem Value).run P w = .ok v' w' ∧ VR ρ' ω v v' ∧ Step P ρ ω H w ρ' H' w' := by
  unfold boxV at h
  cases hc : x.cells with
  | nil => rw [hc] at h; cases h
  | cons c0 cs0 =>
    rw [hc] at h
    simp only [mkR, R.ok.injEq] at h
    obtain ⟨rfl, rfl⟩ := h
    obtain ⟨hcs, hone⟩ := cells_sound hω hx (by rw [hc]; simp)
    rw [hc] at hcs
    have hlen := hcs.length
    have ha : ArrOk ρ ω x'.cells ⟨w.heap.size, 0, 1 * lenN (c0 :: cs0)⟩ (lenN (c0 :: cs0)) 1 (c0 :: cs0) .nil := {
      lim := Nat.le_refl _
      size := by
        show 0 + 1 * lenN (c0 :: cs0) ≤ x'.cells.size
        rw [lenN_eq]; simp only [Array.length_toList] at hlen; omega
      els := fun j hj => by
        have : j = 0 := by omega
        subst this
        rw [elem_nil]
        refine ⟨x'.cells.toList, hcs, by rw [lenN_eq]; exact hlen.symm, hone, fun k u hk => ?_⟩
        simpa using hk }
    refine ⟨_, .pointer (some ⟨w.heap.size, 0, none⟩), _, ?_, ?_, newArr_step hr (T := T) ha⟩
    · simp [newVar, newRow]
    · exact .ptr H.next 0 ⟨w.heap.size, 0, 1 * lenN (c0 :: cs0)⟩ (ext_same _ _ _)

theorem range0 {α : Type} (f : Nat → α) : (Array.range 0).map f = #[] := by
  apply Array.ext'
  simp

/-- n zero values side by side -/
theorem zeros_get (zero : Array Value) (n q : Nat) (h : q < n) : ((Array.range n).map (zero[· % zero.size]!))[q]? = some (zero[q % zero.size]!) := by
  simp [h]

theorem zeros_arr {z : List AVal} {zs : Array Value} (hz : All2 (VR ρ ω) z zs.toList) (hone : ∀ u ∈ zs.toList, u.oneCell' = true) {s n b : Nat} (hs : z.length = s) :
    ArrOk ρ ω ((Array.range (n * s)).map (zs[· % zs.size]!)) ⟨b, 0, n * s⟩ s n z .nil where
  lim := Nat.le_refl _
  size := by simp
  els := fun j hj => by
    have hzl : zs.size = s := by have := hz.length; rw [hs] at this; simpa using this.symm
    rw [elem_nil]
    refine ⟨zs.toList, hz, by simpa using hzl, hone, fun k v hk => ?_⟩
    have hk' : k < s := by
      have := (List.getElem?_eq_some_iff.1 hk).1
      simp only [Array.length_toList] at this
      omega
    have hlt : j * s + k < n * s := by
      have : (j + 1) * s ≤ n * s := Nat.mul_le_mul_right _ hj
      rw [Nat.add_mul] at this
      omega
    have h0 : (0 : Nat) + j * s + k = j * s + k := by omega
    rw [h0, zeros_get zs (n * s) _ hlt, hzl]
    have hm : (j * s + k) % s = k := by
      rw [Nat.add_comm, Nat.add_mul_mod_self_right]
      exact Nat.mod_eq_of_lt hk'
    rw [hm]
    have hk2 : zs[k]? = some v := by simpa using hk
    rw [getElem!_def, hk2]

variable {N : Nat} {S : List (Nat × Pth)} {G : Ctx} {L : List AVal} {e : T8 AVal} {a : Act}

theorem bslfill_sound (hω : ∀ i, (ω i).oneCell' = true) (hg : GlobOk P ρ) (he : EnvOk ρ ω S e a.tmps) (hc : CtxOk ρ ω G L e a.tmps) {s n b : Nat} {z : List AVal} :
    ∀ (ps : List (Nat × Operand)) (parts : List (Nat × COpd)) (t els : T8 (List AVal)) (cells : Array Value), cPartsS P N S G n ps = some parts → ArrOk ρ ω cells ⟨b, 0, n * s⟩ s n z t → cells.size = n * s →
      bslV L e s t parts = some els → ∃ cells', Instr.fill (fun i => some (i * s, s)) cells (ps.map fun (i, x) => (i, a.eval x)) = some cells' ∧ ArrOk ρ ω cells' ⟨b, 0, n * s⟩ s n z els
  | [], parts, t, els, cells, hp, ha, hsz, hb => by
    simp only [cPartsS, Option.some.injEq] at hp
    subst hp
    simp only [bslV, Option.some.injEq] at hb
    subst hb
    exact ⟨cells, rfl, ha⟩
  | (i, x) :: ps, parts, t, els, cells, hp, ha, hsz, hb => by
    simp only [cPartsS] at hp
    cases hi : Nat.blt i n with
    | false => rw [hi] at hp; cases hp
    | true =>
      rw [hi] at hp
      simp only [cond, Option.bind_eq_some_iff] at hp
      obtain ⟨cx, h2, r, h3, h4⟩ := hp
      simp only [Option.some.injEq] at h4
      subst h4
      have hin := idx_lt hi
      simp only [bslV] at hb
      cases hl : (Nat.blt 0 s && lenIs (cx.ev L e).cells s) with
      | false => rw [hl] at hb; cases hb
      | true =>
        rw [hl] at hb
        simp only [cond] at hb
        rw [Bool.and_eq_true] at hl
        have hpos : 0 < s := idx_lt hl.1
        have hlen := lenIs_iff hl.2
        have hx := cOpd_sound hg he hc h2
        obtain ⟨hcs, hco⟩ := cells_sound hω hx (by intro e; rw [e] at hlen; simp at hlen; omega)
        have hvs : (a.eval x).cells.toList.length = s := by rw [← hcs.length]; exact hlen
        have hvs' : (a.eval x).cells.size = s := by simpa using hvs
        have hmul : (i + 1) * s ≤ n * s := Nat.mul_le_mul_right _ hin
        rw [Nat.add_mul] at hmul
        have hfit : i * s + (a.eval x).cells.toList.length ≤ cells.size := by omega
        have hfold : (a.eval x).cells.zipIdx.foldl (fun cs (c, j) => cs.setIfInBounds (i * s + j) c) cells = splice cells (i * s) (a.eval x).cells.toList := by
          rw [← Array.foldl_toList, Array.toList_zipIdx]
          exact zipIdx_foldl (i * s) _ 0 cells (by simpa using hfit)
        have ha' : ArrOk ρ ω (splice cells (i * s) (a.eval x).cells.toList) ⟨b, 0, n * s⟩ s n z (t.put [] (cx.ev L e).cells (key i)) := by
          refine ha.put hin hcs hvs hco hpos (splice_size hfit) ?_ ?_
          · intro q hq
            rw [splice_get hfit, hvs]
            by_cases q1 : q < i * s
            · rw [if_pos q1]
            · rw [if_neg q1, if_neg (by simp only [Nat.zero_add] at hq; omega)]
          · intro k u hk
            have hk' := (List.getElem?_eq_some_iff.1 hk).1
            rw [splice_get hfit]
            simp only [Nat.zero_add]
            rw [if_neg (by omega), if_pos (by omega), ← hk]
            congr 1
            omega
        obtain ⟨cells', h7, h8⟩ := bslfill_sound hω hg he hc ps r _ els _ h3 ha' (by rw [splice_size hfit]; exact hsz) hb
        refine ⟨cells', ?_, h8⟩
        simp only [List.map_cons, Instr.fill]
        rw [if_neg (by simp [hvs']; omega), hfold]
        exact h7

theorem bsl_step (hω : ∀ i, (ω i).oneCell' = true) (hr : HR P ρ ω H w) (hg : GlobOk P ρ) (he : EnvOk ρ ω S e a.tmps) (hc : CtxOk ρ ω G L e a.tmps) {t el : TypeId} {n s : Nat} {z v : AVal} (ht : tElem P t = some el) (hs : tSize P el = some s)
    (hz : tZero P el = some z) (hsmall : Nat.blt (n * s) 65536 = true) (hpos : Nat.blt 0 s = true) (hzl : lenIs z.cells s = true) {ps : Array (Nat × Operand)} {parts : List (Nat × COpd)} (hp : cPartsS P N S G n ps.toList = some parts)
    {H' : AH} (h : mkR H (mkBlock L e (.bsl s n z.cells parts) H.next) = .ok v H') :
    ∃ ρ' v' w', (Instr.buildSlice t n (ps.map fun (i, x) => (i, a.eval x))).run P w = .ok v' w' ∧ VR ρ' ω v v' ∧ Step P ρ ω H w ρ' H' w' := by
  obtain ⟨it, zv, hi, hzv, hof⟩ := tZero_some hz
  obtain ⟨ie, hie, hsz⟩ := tSize_some hs
  rw [hi] at hie; cases hie
  obtain ⟨hzc, hzo⟩ := ofValue_cells (ρ := ρ) (ω := ω) hof
  have hpos := idx_lt hpos
  have hsmall := idx_lt hsmall
  simp only [mkBlock] at h
  cases hb : bslV L e s .nil parts with
  | none => rw [hb] at h; cases h
  | some els =>
    rw [hb] at h
    simp only [mkR, R.ok.injEq] at h
    obtain ⟨rfl, rfl⟩ := h
    obtain ⟨cells', hf, ha⟩ := bslfill_sound (b := w.heap.size) hω hg he hc ps.toList parts .nil els _ hp (zeros_arr (n := n) (b := w.heap.size) hzc hzo (lenIs_iff hzl)) (by simp) hb
    have hf' : Instr.fill (fun i => some (i * s, s)) ((Array.range (n * s)).map (zv.cells[· % zv.cells.size]!)) (ps.map fun (i, x) => (i, a.eval x)).toList = some cells' := by
      rw [← hf]; congr 1; simp
    refine ⟨_, .slice (some ⟨w.heap.size, 0, none⟩) n n, _, ?_, ?_, newArr_step hr (T := el) ha⟩
    · by_cases hn : n = 0
      · subst hn
        have hcells : cells' = #[] := by
          have hps : parts = [] ∧ ps.toList = [] := by
            cases hq : ps.toList with
            | nil => rw [hq] at hp; simp only [cPartsS, Option.some.injEq] at hp; exact ⟨hp.symm, rfl⟩
            | cons q r =>
              rw [hq] at hp
              obtain ⟨i, x⟩ := q
              simp only [cPartsS] at hp
              cases hi0 : Nat.blt i 0 with
              | false => rw [hi0] at hp; cases hp
              | true => have := idx_lt hi0; omega
          rw [hps.2] at hf
          simp only [List.map_nil, Instr.fill, Option.some.injEq] at hf
          rw [← hf]
          simp
        have hps0 : ps = #[] := by
          apply Array.ext'
          cases hq : ps.toList with
          | nil => rfl
          | cons q r =>
            rw [hq] at hp
            obtain ⟨i, x⟩ := q
            simp only [cPartsS] at hp
            cases hi0 : Nat.blt i 0 with
            | false => rw [hi0] at hp; cases hp
            | true => have := idx_lt hi0; omega
        subst hps0
        subst hcells
        simp [Instr.buildSlice, run_underlying (elem_of ht), sizeOf, typeInfo, hi, newRow, Instr.fill, range0]
      · subst hsz
        exact run_buildSlice w t el n _ cells' it zv (elem_of ht) hi hzv (by omega) (by
          intro h0
          rcases Nat.mul_eq_zero.1 h0 with h1 | h1
          · exact hn h1
          · omega) hf'
    · exact .sl H.next 0 n n ⟨w.heap.size, 0, n * s⟩ (ext_same _ _ _)

theorem small_of {need bytes : Nat} (h : small need bytes = true) : need * bytes < 2 ^ 40 ∧ bytes < 2 ^ 20 ∧ need < 2 ^ 40 := by
  unfold small at h
  rw [Bool.and_eq_true, Bool.and_eq_true] at h
  exact ⟨idx_lt h.1, idx_lt h.2.1, idx_lt h.2.2⟩

theorem mksl_step (hr : HR P ρ ω H w) {t el : TypeId} {s b : Nat} {z l c : AVal} {l' c' : Value} (ht : tElem P t = some el) (hs : tSize P el = some s) (hby : tBytes P el = some b) (hz : tZero P el = some z)
    (hpos : Nat.blt 0 s = true) (hzl : lenIs z.cells s = true) (hl : VR ρ ω l l') (hc : VR ρ ω c c') {n m : Nat} (hln : natOf l = some n) (hcm : natOf c = some m) (hnm : n ≤ m) (hsm : small m b = true) :
    ∃ v' w', (Instr.makeSlice t l' c').run P w = .ok v' w' ∧ VR (ext ρ H.next ⟨w.heap.size, 0, m * s⟩) ω (.sl H.next 0 n m) v' ∧ Step P ρ ω H w (ext ρ H.next ⟨w.heap.size, 0, m * s⟩) (H.add (.arr s m z.cells .nil)) w' := by
  obtain ⟨it, zv, hi, hzv, hof⟩ := tZero_some hz
  obtain ⟨ie, hie, hsz⟩ := tSize_some hs
  rw [hi] at hie; cases hie
  obtain ⟨hzc, hzo⟩ := ofValue_cells (ρ := ρ) (ω := ω) hof
  have hpos := idx_lt hpos
  obtain ⟨h1, h2, h3⟩ := small_of hsm
  obtain ⟨k1, rfl⟩ := natOf_sound hl hln
  obtain ⟨k2, rfl⟩ := natOf_sound hc hcm
  have hbytes : it.bytes = b := by
    unfold tBytes at hby
    rw [hi] at hby
    simpa using hby
  have wl : IntKind.i64.wrap (n : Int) = n := IntWalk.i64_in _ (by omega)
  have wc : IntKind.i64.wrap (m : Int) = m := IntWalk.i64_in _ (by omega)
  have hmb : (b : Int) * (m : Int) < 2 ^ 40 := by
    have : ((m * b : Nat) : Int) < ((2 ^ 40 : Nat) : Int) := by exact_mod_cast h1
    rw [Int.natCast_mul, Int.mul_comm] at this
    simpa using this
  refine ⟨.slice (some ⟨w.heap.size, 0, none⟩) n m, _, ?_, .sl H.next 0 n m ⟨w.heap.size, 0, m * s⟩ (ext_same _ _ _), newArr_step hr (T := el) (zeros_arr (n := m) (b := w.heap.size) hzc hzo (lenIs_iff hzl))⟩
  unfold Instr.makeSlice
  simp only [asInt, asIntOf, Sem.run_bind, Sem.run_pure, Result.andThen_ok, run_underlying (elem_of ht), typeInfo, run_program, hi, wl, wc, hbytes]
  rw [if_neg (by simp; omega)]
  simp only [Sem.run_bind, run_askRoom, Result.andThen_ok, sizeOf, typeInfo, run_program, hi, Sem.run_pure, hsz, Int.toNat_natCast]
  by_cases h0 : m * s = 0
  · have hm0 : m = 0 := by
      rcases Nat.mul_eq_zero.1 h0 with h | h
      · exact h
      · omega
    subst hm0
    simp [newRow, range0]
  · rw [if_neg h0]
    simp [zeroValue, typeInfo, hi, hzv, newRow]

theorem mkmap_step (hr : HR P ρ ω H w) {t : TypeId} {ty : TypeId} (_ : t = ty) :
    ∃ v' w', (Instr.makeMap t none).run P w = .ok v' w' ∧ VR (ext ρ H.next ⟨w.heap.size, 0, 0⟩) ω (.map H.next) v' ∧ Step P ρ ω H w (ext ρ H.next ⟨w.heap.size, 0, 0⟩) (H.add (.mp [])) w' := by
  refine ⟨.map (some w.heap.size), _, rfl, .map H.next ⟨w.heap.size, 0, 0⟩ (ext_same _ _ _), ?_⟩
  refine hr.add (i := ⟨w.heap.size, 0, 0⟩) (ob := .map #[] 0) rfl ⟨_, #[], 0, ext_same _ _ _, ?_, .nil⟩
  show (w.heap.push _)[w.heap.size]? = _
  simp
end Go.Ex

namespace Go.Ex
open Go
variable {P : Program} {ρ : Pth → Option BI} {ω : Nat → Value} {H : AH} {w : World}

/-! ### elements side by side -/
structure ElsOk (ρ : Pth → Option BI) (ω : Nat → Value) (esz : Nat) (new : List (List AVal)) (vals : List Value) : Prop where
  len : vals.length = new.length * esz
  one : ∀ v ∈ vals, v.oneCell' = true
  els : ∀ (j : Nat) (cs : List AVal), new[j]? = some cs → ∃ us, All2 (VR ρ ω) cs us ∧ us.length = esz ∧ (∀ u ∈ us, u.oneCell' = true) ∧ ∀ k u, us[k]? = some u → vals[j * esz + k]? = some u

theorem lenL_eq (l : List (List AVal)) : lenL l = l.length := by
  induction l with
  | nil => rfl
  | cons a l ih => simp only [lenL, ih, List.length_cons]

theorem elemsFrom_length (d : List AVal) (els : T8 (List AVal)) (j n : Nat) : (elemsFrom d els j n).length = n := by
  induction n generalizing j with
  | zero => rfl
  | succ n ih => simp only [elemsFrom, List.length_cons, ih]
theorem elemsFrom_get (d : List AVal) (els : T8 (List AVal)) (j n m : Nat) (h : m < n) : (elemsFrom d els j n)[m]? = some (elem (j + m) d els) := by
  induction n generalizing j m with
  | zero => omega
  | succ n ih =>
    cases m with
    | zero => rfl
    | succ m =>
      simp only [elemsFrom, List.getElem?_cons_succ]
      rw [ih (Nat.succ j) m (by omega)]
      congr 2
      omega

theorem elem_putEls (d : List AVal) : ∀ (new : List (List AVal)) (j0 m : Nat) (els : T8 (List AVal)),
    elem m d (putEls j0 new els) = if j0 ≤ m then (match new[m - j0]? with | some c => orElse d c | none => elem m d els) else elem m d els
  | [], j0, m, els => by simp [putEls]
  | c :: new, j0, m, els => by
    simp only [putEls]
    rw [elem_putEls d new (Nat.succ j0) m]
    by_cases h1 : j0 ≤ m
    · rw [if_pos h1]
      by_cases h2 : Nat.succ j0 ≤ m
      · rw [if_pos h2]
        have e1 : m - j0 = (m - Nat.succ j0) + 1 := by omega
        rw [e1, List.getElem?_cons_succ]
        cases new[m - Nat.succ j0]? with
        | none => exact elem_put_ne (by omega)
        | some c' => rfl
      · have e1 : m = j0 := by omega
        subst e1
        rw [if_neg h2, elem_put_same]
        simp
    · rw [if_neg h1, if_neg (by omega), elem_put_ne (by omega)]

/-- the cells of a row from a place on, as values -/
theorem row_cells {c : Array Value} {o n : Nat} (h : o + n ≤ c.size) : ∃ vals : List Value, vals.length = n ∧ ∀ k, k < n → ∃ v, vals[k]? = some v ∧ c[o + k]? = some v := by
  refine ⟨(c.toList.drop o).take n, by simp; omega, fun k hk => ?_⟩
  refine ⟨c[o + k]'(by omega), ?_, by simp⟩
  rw [List.getElem?_take, if_pos hk, List.getElem?_drop]
  simp

theorem mul_split {esz q n : Nat} (hp : 0 < esz) (h : q < n * esz) : q / esz < n ∧ q % esz < esz ∧ q = q / esz * esz + q % esz := by
  refine ⟨(Nat.div_lt_iff_lt_mul hp).2 h, Nat.mod_lt _ hp, ?_⟩
  rw [Nat.mul_comm]; exact (Nat.div_add_mod q esz).symm

/-- the elements of a part of an array -/
theorem ArrOk.elems {c : Array Value} {i : BI} {esz n : Nat} {d : List AVal} {els : T8 (List AVal)} (ha : ArrOk ρ ω c i esz n d els) (hp : 0 < esz) {off len : Nat} (hmod : off % esz = 0) (hfit : off / esz + len ≤ n) :
    ∃ vals, ElsOk ρ ω esz (elemsFrom d els (off / esz) len) vals ∧ ∀ k v, vals[k]? = some v → c[i.base + off + k]? = some v := by
  have hoff : off / esz * esz = off := by
    have := Nat.div_add_mod off esz
    rw [hmod, Nat.mul_comm] at this
    omega
  have hmul : (off / esz + len) * esz ≤ n * esz := Nat.mul_le_mul_right _ hfit
  rw [Nat.add_mul, hoff] at hmul
  have hl := ha.lim
  have hs := ha.size
  obtain ⟨vals, hv1, hv2⟩ := row_cells (c := c) (o := i.base + off) (n := len * esz) (by omega)
  refine ⟨vals, ⟨by rw [elemsFrom_length]; exact hv1, ?_, ?_⟩, ?_⟩
  · intro v hv
    obtain ⟨q, hq⟩ := List.getElem?_of_mem hv
    have hql : q < len * esz := by have := (List.getElem?_eq_some_iff.1 hq).1; omega
    obtain ⟨h1, h2, h3⟩ := mul_split hp hql
    obtain ⟨us, _, u2, u3, u4⟩ := ha.els (off / esz + q / esz) (by omega)
    have hlt : q % esz < us.length := by omega
    have hu := u4 (q % esz) us[q % esz] (List.getElem?_eq_getElem hlt)
    obtain ⟨v', hv', hc⟩ := hv2 q hql
    rw [hq] at hv'; cases hv'
    have e1 : i.base + (off / esz + q / esz) * esz + q % esz = i.base + off + q := by rw [Nat.add_mul, hoff]; omega
    rw [e1, hc] at hu
    simp only [Option.some.injEq] at hu
    rw [hu]
    exact u3 _ (List.getElem_mem hlt)
  · intro j cs hj
    have hjl : j < len := by have := (List.getElem?_eq_some_iff.1 hj).1; rw [elemsFrom_length] at this; exact this
    rw [elemsFrom_get _ _ _ _ _ hjl] at hj
    simp only [Option.some.injEq] at hj
    subst hj
    obtain ⟨us, u1, u2, u3, u4⟩ := ha.els (off / esz + j) (by omega)
    refine ⟨us, u1, u2, u3, fun k u hk => ?_⟩
    have hkl : k < esz := by have := (List.getElem?_eq_some_iff.1 hk).1; omega
    have hlt : j * esz + k < len * esz := by
      have : (j + 1) * esz ≤ len * esz := Nat.mul_le_mul_right _ hjl
      rw [Nat.add_mul] at this
      omega
    obtain ⟨v', hv', hc⟩ := hv2 _ hlt
    have hu := u4 k u hk
    have e1 : i.base + (off / esz + j) * esz + k = i.base + off + (j * esz + k) := by rw [Nat.add_mul, hoff]; omega
    rw [e1, hc] at hu
    rw [hv', hu]
  · intro k v hk
    have hkl : k < len * esz := by have := (List.getElem?_eq_some_iff.1 hk).1; omega
    obtain ⟨v', hv', hc⟩ := hv2 k hkl
    rw [hk] at hv'; cases hv'
    exact hc

/-- elements written anew -/
theorem ArrOk.putEls {c : Array Value} {i : BI} {esz n : Nat} {d : List AVal} {els : T8 (List AVal)} (ha : ArrOk ρ ω c i esz n d els) (hp : 0 < esz) {new : List (List AVal)} {vals : List Value} (hn : ElsOk ρ ω esz new vals)
    {j0 : Nat} (hfit : j0 + new.length ≤ n) : ArrOk ρ ω (splice c (i.base + j0 * esz) vals) i esz n d (putEls j0 new els) := by
  have hl := ha.lim
  have hs := ha.size
  have hmul : (j0 + new.length) * esz ≤ n * esz := Nat.mul_le_mul_right _ hfit
  rw [Nat.add_mul] at hmul
  have hvl := hn.len
  have hsp : i.base + j0 * esz + vals.length ≤ c.size := by omega
  refine ⟨hl, by rw [splice_size hsp]; exact hs, fun m hm => ?_⟩
  rw [elem_putEls]
  by_cases h1 : j0 ≤ m
  · rw [if_pos h1]
    cases hq : new[m - j0]? with
    | some cs =>
      obtain ⟨us, u1, u2, u3, u4⟩ := hn.els _ _ hq
      simp only
      rw [orElse_ne (by intro e; subst e; have := u1.length; simp at this; omega)]
      refine ⟨us, u1, u2, u3, fun k u hk => ?_⟩
      have hkl : k < esz := by have := (List.getElem?_eq_some_iff.1 hk).1; omega
      have hml : m - j0 < new.length := (List.getElem?_eq_some_iff.1 hq).1
      have e1 : m * esz = j0 * esz + (m - j0) * esz := by rw [← Nat.add_mul]; congr 1; omega
      have e2 : (m - j0 + 1) * esz ≤ new.length * esz := Nat.mul_le_mul_right _ hml
      rw [Nat.add_mul] at e2
      rw [splice_get hsp, if_neg (by omega), if_pos (by omega), ← u4 k u hk]
      congr 1
      omega
    | none =>
      simp only
      obtain ⟨us, u1, u2, u3, u4⟩ := ha.els m hm
      refine ⟨us, u1, u2, u3, fun k u hk => ?_⟩
      have hml : new.length ≤ m - j0 := List.getElem?_eq_none_iff.1 hq
      have e2 : (j0 + new.length) * esz ≤ m * esz := Nat.mul_le_mul_right _ (by omega)
      rw [Nat.add_mul] at e2
      rw [splice_get hsp, if_neg (by omega), if_neg (by omega)]
      exact u4 k u hk
  · rw [if_neg h1]
    obtain ⟨us, u1, u2, u3, u4⟩ := ha.els m hm
    refine ⟨us, u1, u2, u3, fun k u hk => ?_⟩
    have hkl : k < esz := by have := (List.getElem?_eq_some_iff.1 hk).1; omega
    have e2 : (m + 1) * esz ≤ j0 * esz := Nat.mul_le_mul_right _ (by omega)
    rw [Nat.add_mul] at e2
    rw [splice_get hsp, if_pos (by omega)]
    exact u4 k u hk

/-- the elements of a slice, and what the builtins read of it -/
theorem elems_sound' (hr : HR P ρ ω H w) {esz : Nat} (hp : 0 < esz) {x : AVal} {x' : Value} (hx : VR ρ ω x x') {new : List (List AVal)} (h : elemsOf H esz x = some new) :
    ∃ vals, ElsOk ρ ω esz new vals ∧ (Builtin.lenOf x').run P w = .ok new.length w ∧ ∀ (w2 : World) (n : Nat), w2.heap = w.heap → n ≤ new.length → (Builtin.firstCells esz n x').run P w2 = .ok (vals.take (n * esz)).toArray w2 := by
  have none_of : ∀ (b : Option Addr) (c : Nat) (w2 : World) (n : Nat), w2.heap = w.heap → n ≤ 0 → (Builtin.firstCells esz n (.slice b 0 c)).run P w2 = .ok #[] w2 := by
    intro b c w2 n _ hn
    obtain rfl := Nat.le_zero.1 hn
    cases b with
    | none => rfl
    | some a => simp [Builtin.firstCells, loadCells, loadCellsFrom]
  have empty : ElsOk ρ ω esz [] [] := ⟨by simp, by simp, by simp⟩
  have main : ∀ (id : Pth) (off len cap : Nat) (i : BI), ρ id = some i → (bif Nat.beq len 0 then some [] else sliceElems H esz id off len) = some new →
      ∃ vals, ElsOk ρ ω esz new vals ∧ (Builtin.lenOf (.slice (some ⟨i.blk, i.base + off, none⟩) len cap)).run P w = .ok new.length w ∧
        ∀ (w2 : World) (n : Nat), w2.heap = w.heap → n ≤ new.length → (Builtin.firstCells esz n (.slice (some ⟨i.blk, i.base + off, none⟩) len cap)).run P w2 = .ok (vals.take (n * esz)).toArray w2 := by
    intro id off len cap i hi h
    cases hb : Nat.beq len 0 with
    | true =>
      rw [hb] at h
      simp only [cond, Option.some.injEq] at h
      subst h
      obtain rfl := Nat.eq_of_beq_eq_true hb
      exact ⟨[], empty, rfl, fun w2 n h1 h2 => by rw [List.take_nil]; exact none_of _ _ w2 n h1 h2⟩
    | false =>
      rw [hb] at h
      simp only [cond] at h
      unfold sliceElems at h
      cases ho : H.m.get .dead id with
      | arr esz' n d els =>
        rw [ho] at h
        simp only at h
        cases hq : (Nat.beq esz esz' && (Nat.beq (Nat.mod off esz) 0 && Nat.ble (Nat.add (Nat.div off esz) len) n)) with
        | false => rw [hq] at h; cases h
        | true =>
          rw [hq] at h
          simp only [cond, Option.some.injEq] at h
          rw [Bool.and_eq_true, Bool.and_eq_true] at hq
          obtain rfl := Nat.eq_of_beq_eq_true hq.1
          have h1 : off % esz = 0 := Nat.eq_of_beq_eq_true hq.2.1
          have h2 : off / esz + len ≤ n := Nat.le_of_ble_eq_true hq.2.2
          have hok := hr.ok id
          rw [ho] at hok
          obtain ⟨i', c, T, hi', hc, ha⟩ := hok
          rw [hi] at hi'; cases hi'
          obtain ⟨vals, hv, hcells⟩ := ha.elems hp h1 h2
          have hnew : new = elemsFrom d els (off / esz) len := h.symm
          have hlen : new.length = len := by rw [hnew]; exact elemsFrom_length _ _ _ _
          refine ⟨vals, by rw [hnew]; exact hv, by rw [hlen]; rfl, ?_⟩
          have hvl : vals.length = len * esz := by have := hv.len; rw [elemsFrom_length] at this; exact this
          rw [hlen]
          intro w2 n' hw2 hn'
          have htl : (vals.take (n' * esz)).length = n' * esz := by
            have : n' * esz ≤ len * esz := Nat.mul_le_mul_right _ hn'
            rw [List.length_take]; omega
          show (loadCells ⟨i.blk, i.base + off, none⟩ (n' * esz)).run P w2 = _
          have := load_cells (P := P) (w := w2) (b := i.blk) (by rw [hw2]; exact hc) (o := i.base + off) (vs := vals.take (n' * esz)) (fun k v hk => hcells k v (by
            rw [List.getElem?_take] at hk
            split at hk
            · exact hk
            · cases hk))
          rw [htl] at this
          exact this
      | ro _ _ _ _ => rw [ho] at h; cases h
      | dead => rw [ho] at h; cases h
      | lp _ _ _ _ _ => rw [ho] at h; cases h
      | mp _ => rw [ho] at h; cases h
  cases hx with
  | snil => simp only [elemsOf, Option.some.injEq] at h; subst h; exact ⟨[], empty, rfl, fun w2 n h1 h2 => by rw [List.take_nil]; exact none_of _ _ w2 n h1 h2⟩
  | se b cap => simp only [elemsOf, Option.some.injEq] at h; subst h; exact ⟨[], empty, rfl, fun w2 n h1 h2 => by rw [List.take_nil]; exact none_of _ _ w2 n h1 h2⟩
  | sl id off len cap i hi => exact main id off len cap i hi h
  | sg id off len ez cap i hi hl hlim => exact main id off len cap i hi h
  | _ => cases h

theorem elems_sound (hr : HR P ρ ω H w) {esz : Nat} (hp : 0 < esz) {x : AVal} {x' : Value} (hx : VR ρ ω x x') {new : List (List AVal)} (h : elemsOf H esz x = some new) :
    ∃ vals, ElsOk ρ ω esz new vals ∧ (Builtin.lenOf x').run P w = .ok new.length w ∧ ∀ w2 : World, w2.heap = w.heap → (Builtin.firstCells esz new.length x').run P w2 = .ok vals.toArray w2 := by
  obtain ⟨vals, h1, h2, h3⟩ := elems_sound' hr hp hx h
  refine ⟨vals, h1, h2, fun w2 hw2 => ?_⟩
  have := h3 w2 new.length hw2 (Nat.le_refl _)
  rwa [List.take_of_length_le (by rw [h1.len]; exact Nat.le_refl _)] at this
end Go.Ex

namespace Go.Ex
open Go
variable {P : Program} {ρ : Pth → Option BI} {ω : Nat → Value} {H : AH} {w : World}

/-! ### append -/
theorem HR.drew (hr : HR P ρ ω H w) : HR P ρ ω H w.drew := ⟨fun id => ObjOk.mono (.refl _) (fun _ _ => rfl) (hr.ok id), hr.inj, hr.fresh⟩
theorem Step.of_drew {ρ' : Pth → Option BI} {H' : AH} {w' : World} (h : Step P ρ ω H w.drew ρ' H' w') : Step P ρ ω H w ρ' H' w' :=
  ⟨h.sub, h.hr, h.os, h.tape, h.output, h.size, h.keep, h.img, h.imgo, h.next, h.dom⟩

theorem growBy_le (newLen : Nat) : ∀ (r c : Nat), c < newLen → Builtin.growBy newLen r c ≤ 2 * newLen + 200
  | 0, c, h => by simp only [Builtin.growBy]; omega
  | r + 1, c, h => by
    simp only [Builtin.growBy]
    rw [if_neg (by omega)]
    by_cases h2 : c + (c + 768) / 4 < newLen
    · exact growBy_le newLen r _ h2
    · cases r with
      | zero => simp only [Builtin.growBy]; omega
      | succ r => simp only [Builtin.growBy]; rw [if_pos (by omega)]; omega

theorem nextcap_le {need cap : Nat} (h : cap < need) : Builtin.nextslicecap need cap ≤ 2 * need + 200 := by
  unfold Builtin.nextslicecap
  split
  · omega
  · split
    · omega
    · exact growBy_le _ 4 _ h

/-- what append asks of the element type -/
structure ElemT (P : Program) (t e : TypeId) (esz bytes : Nat) : Prop where
  el : P.underlying t = some (.slice e)
  sz : tSize P e = some esz
  by_ : tBytes P e = some bytes
  zero : ∃ it z, P.info? e = some it ∧ it.zero = some z ∧ z.cells.size = esz

theorem ElemT.info {t e : TypeId} {esz bytes : Nat} (h : ElemT P t e esz bytes) : ∃ it z, P.info? e = some it ∧ it.zero = some z ∧ it.size = esz ∧ it.bytes = bytes ∧ z.cells.size = esz := by
  obtain ⟨it, z, h1, h2, h5⟩ := h.zero
  have h3 := h.sz
  have h4 := h.by_
  unfold tSize at h3
  unfold tBytes at h4
  rw [h1] at h3 h4
  exact ⟨it, z, h1, h2, by simpa using h3, by simpa using h4, h5⟩

section
variable {t u e e' ty : TypeId} {esz bytes : Nat}

/-- there is room -/
theorem append_room (hT : ElemT P t e esz bytes) (hu : P.underlying u = some (.slice e')) {ts : List TypeId} {b : Option Addr} {sLen sCap n : Nat} {x' : Value} {vals : List Value} {w' : World} (hlen : (Builtin.lenOf x').run P w = .ok n w)
    (hcells : (Builtin.firstCells esz n x').run P w = .ok vals.toArray w) (hroom : sLen + n ≤ sCap)
    (hst : ∀ a, b = some a → (storeCells (a.add (sLen * esz)) vals).run P w = .ok () w') (hnone : b = none → w' = w) :
    (Builtin.append_ (t :: u :: ts).toArray ty #[.slice b sLen sCap, x']).run P w = .ok (.slice b (sLen + n) sCap) w' := by
  unfold Builtin.append_
  simp only [List.getElem?_toArray, List.getElem?_cons_zero, List.getElem?_cons_succ]
  cases b with
  | none =>
    have := hnone rfl
    subst this
    simp [run_underlying hT.el, run_underlying hu, run_size hT.sz, hlen, hroom, hcells]
  | some a =>
    have := hst a rfl
    simp [run_underlying hT.el, run_underlying hu, run_size hT.sz, hlen, hroom, hcells, this]

/-- there is none: a new array -/
theorem append_grows (hT : ElemT P t e esz bytes) (hu : P.underlying u = some (.slice e')) {ts : List TypeId} {b : Option Addr} {sLen sCap n : Nat} {x' : Value} {vals old : List Value} (hlen : (Builtin.lenOf x').run P w = .ok n w)
    (hcells : (Builtin.firstCells esz n x').run P w.drew = .ok vals.toArray w.drew) (hold : (Builtin.firstCells esz sLen (.slice b sLen sCap)).run P w.drew = .ok old.toArray w.drew) (hroom : ¬ sLen + n ≤ sCap)
    (hsm : small (sLen + n) bytes = true) :
    ∃ (newCap : Nat) (rest : Array Value), sLen + n ≤ newCap ∧ rest.size = (newCap - (sLen + n)) * esz ∧
      (Builtin.append_ (t :: u :: ts).toArray ty #[.slice b sLen sCap, x']).run P w = .ok (.slice (some ⟨w.heap.size, 0, none⟩) (sLen + n) newCap) (w.drew.alloc (.cells (old.toArray ++ vals.toArray ++ rest) e)) := by
  obtain ⟨it, z, h1, h2, h3, h4, h5⟩ := hT.info
  obtain ⟨s1, s2, s3⟩ := small_of hsm
  have hn : Builtin.nextslicecap (sLen + n) sCap * it.bytes ≤ 2 ^ 48 := by
    have hb := nextcap_le (need := sLen + n) (cap := sCap) (by omega)
    rw [h4]
    calc Builtin.nextslicecap (sLen + n) sCap * bytes ≤ (2 * (sLen + n) + 200) * bytes := Nat.mul_le_mul_right _ hb
      _ = 2 * ((sLen + n) * bytes) + 200 * bytes := by rw [Nat.add_mul, Nat.mul_assoc]
      _ ≤ 2 ^ 48 := by omega
  refine ⟨(sLen + n) + w.tape w.drawn (.appendCap (sLen + n) sCap e) % (2 ^ 63 - (sLen + n)), Builtin.zeroCells z.cells ((sLen + n) + w.tape w.drawn (.appendCap (sLen + n) sCap e) % (2 ^ 63 - (sLen + n)) - (sLen + n)), by omega, ?_, ?_⟩
  · simp [Builtin.zeroCells, h5]
  · unfold Builtin.append_
    simp only [List.getElem?_toArray, List.getElem?_cons_zero, List.getElem?_cons_succ]
    simp only [Sem.run_bind, run_underlying hT.el, run_underlying hu, Result.andThen_ok, run_size hT.sz, Sem.run_pure, Bool.false_eq_true, if_false, hlen, if_neg hroom, typeInfo, run_program, h1]
    have hmax : ¬ (((sLen + n : Nat) : Int) > IntKind.i64.max ∧ (False ∨ it.bytes = 0)) := by
      have : IntKind.i64.max = 9223372036854775807 := by decide
      rw [this]
      omega
    have hn' : ¬ Builtin.nextslicecap (sLen + n) sCap * it.bytes > 2 ^ 48 := by omega
    rw [if_neg hmax]
    simp only [Sem.run_bind, run_program, h1, Result.andThen_ok, Sem.run_pure]
    rw [if_neg hn']
    simp only [Sem.run_bind, run_choose, Question.forced, Bool.false_eq_true, if_false, World.drew_eq, Result.andThen_ok, run_program, h1, Sem.run_pure, run_askRoom, hold, hcells, Bool.not_false, if_true, zeroValue, typeInfo, h2, newRow, run_newObj, World.alloc_eq, Question.cut]
    rfl
end

/-! ### changes of the heap behind append -/
/-- an object is let go -/
theorem HR.drop (hr : HR P ρ ω H w) (id : Pth) : Step P ρ ω H w ρ (H.set id .dead) w where
  sub := .refl _
  hr := {
    ok := fun q => by
      by_cases he : id = q
      · subst he; rw [get_set_same]; trivial
      · rw [get_set_ne he]; exact hr.ok q
    inj := fun a b ia ib hoa hlb hab ha hb => by
      have h1 : id ≠ a := fun he => by subst he; rw [get_set_same] at hoa; cases hoa
      have h2 : id ≠ b := fun he => by subst he; rw [get_set_same] at hlb; cases hlb
      rw [get_set_ne h1] at hoa
      rw [get_set_ne h2] at hlb
      exact hr.inj a b ia ib hoa hlb hab ha hb
    fresh := hr.fresh }
  os := rfl
  tape := rfl
  output := rfl
  size := Nat.le_refl _
  keep := fun _ _ _ => rfl
  img := fun b _ hi => by
    obtain ⟨a, ia, ho, ha, rfl⟩ := hi
    have h1 : id ≠ a := fun he => by subst he; rw [get_set_same] at ho; cases ho
    rw [get_set_ne h1] at ho
    exact ⟨a, ia, ho, ha, rfl⟩
  imgo := fun b _ hi => by
    obtain ⟨a, ia, ho, ha, rfl⟩ := hi
    have h1 : id ≠ a := fun he => by subst he; rw [get_set_same] at ho; cases ho
    rw [get_set_ne h1] at ho
    exact ⟨a, ia, ho, ha, rfl⟩
  next := Nat.le_refl _
  dom := fun _ _ h _ => h

/-- the block of one object goes over to a new object -/
theorem HR.move (hr : HR P ρ ω H w) {id : Pth} {i i' : BI} {o : AObj} {w' : World} (hi : ρ id = some i) (hown : owned (H.m.get .dead id) = true) (hb : i'.blk = i.blk)
    (hos : w'.os = w.os) (htape : w'.tape = w.tape) (hout : w'.output = w.output) (hsize : w'.heap.size = w.heap.size)
    (hother : ∀ b, b ≠ i.blk → w'.heap[b]? = w.heap[b]?) (hobj : ObjOk P (ext ρ H.next i') ω w' H.next o) : Step P ρ ω H w (ext ρ H.next i') ((H.set id .dead).add o) w' := by
  have hnid : H.next ≠ id := ne_of_fresh hr hi
  have get_next : ((H.set id .dead).add o).m.get .dead H.next = o := get_add_same (H := H.set id .dead) o
  have get_id : ((H.set id .dead).add o).m.get .dead id = .dead := by
    rw [show ((H.set id .dead).add o).m.get .dead id = (H.set id .dead).m.get .dead id from get_add_ne (H := H.set id .dead) hnid o, get_set_same]
  have get_other : ∀ q, q ≠ H.next → q ≠ id → ((H.set id .dead).add o).m.get .dead q = H.m.get .dead q := fun q h1 h2 => by
    rw [show ((H.set id .dead).add o).m.get .dead q = (H.set id .dead).m.get .dead q from get_add_ne (H := H.set id .dead) (Ne.symm h1) o, get_set_ne (Ne.symm h2)]
  exact {
    sub := sub_ext hr i'
    hr := {
      ok := fun q => by
        by_cases h1 : q = H.next
        · subst h1; rw [get_next]; exact hobj
        · by_cases h2 : q = id
          · subst h2; rw [get_id]; trivial
          · rw [get_other q h1 h2]
            by_cases hlv : live (H.m.get .dead q) = true
            · exact ObjOk.mono (sub_ext hr i') (fun j hj => hother _ (Ne.symm (hr.inj id q i j hown hlv (Ne.symm h2) hi hj))) (hr.ok q)
            · rw [dead_of_not_live hlv]; trivial
      inj := fun a b ia ib hoa hlb hab ha hb' => by
        have na : a ≠ id := fun e => by subst e; rw [get_id] at hoa; cases hoa
        have nb : b ≠ id := fun e => by subst e; rw [get_id] at hlb; cases hlb
        by_cases h1 : a = H.next
        · subst h1
          rw [get_other b (Ne.symm hab) nb] at hlb
          rw [ext_same] at ha; cases ha
          rw [ext_ne _ _ (Ne.symm hab)] at hb'
          rw [hb]
          exact hr.inj id b i ib hown hlb (Ne.symm nb) hi hb'
        · rw [get_other a h1 na] at hoa
          rw [ext_ne _ _ h1] at ha
          by_cases h2 : b = H.next
          · subst h2
            rw [ext_same] at hb'; cases hb'
            rw [hb]
            exact hr.inj a id ia i hoa (live_of_owned hown) na ha hi
          · rw [get_other b h2 nb] at hlb
            rw [ext_ne _ _ h2] at hb'
            exact hr.inj a b ia ib hoa hlb hab ha hb'
      fresh := fun q j hj => by
        have hn : ((H.set id .dead).add o).next.toNat = H.next.toNat + 1 := Pth.toNat_succ _
        rw [hn]
        by_cases e : q = H.next
        · subst e; omega
        · rw [ext_ne _ _ e] at hj
          have := hr.fresh q j hj
          omega }
    os := hos
    tape := htape
    output := hout
    size := by omega
    keep := fun b _ hn => hother b fun e => hn ⟨id, i, hown, hi, e.symm⟩
    img := fun b _ hi' => by
      obtain ⟨a, ia, ho, ha, rfl⟩ := hi'
      have na : a ≠ id := fun e => by subst e; rw [get_id] at ho; cases ho
      by_cases h1 : a = H.next
      · subst h1
        rw [ext_same] at ha; cases ha
        exact ⟨id, i, live_of_owned hown, hi, hb.symm⟩
      · rw [get_other a h1 na] at ho
        rw [ext_ne _ _ h1] at ha
        exact ⟨a, ia, ho, ha, rfl⟩
    imgo := fun b _ hi' => by
      obtain ⟨a, ia, ho, ha, rfl⟩ := hi'
      have na : a ≠ id := fun e => by subst e; rw [get_id] at ho; cases ho
      by_cases h1 : a = H.next
      · subst h1
        rw [ext_same] at ha; cases ha
        exact ⟨id, i, hown, hi, hb.symm⟩
      · rw [get_other a h1 na] at ho
        rw [ext_ne _ _ h1] at ha
        exact ⟨a, ia, ho, ha, rfl⟩
    next := by have : ((H.set id .dead).add o).next.toNat = H.next.toNat + 1 := Pth.toNat_succ _; omega
    dom := fun q j hj hl => by rw [ext_ne _ _ (fun e => by subst e; omega)] at hj; exact hj }

/-- a new row of cells, of which an array takes the first part -/
theorem newArr_step' (hr : HR P ρ ω H w) {cells : Array Value} {T : TypeId} {esz n lim : Nat} {d : List AVal} {els : T8 (List AVal)}
    (ha : ArrOk ρ ω cells ⟨w.heap.size, 0, lim⟩ esz n d els) :
    Step P ρ ω H w (ext ρ H.next ⟨w.heap.size, 0, lim⟩) (H.add (.arr esz n d els)) (w.alloc (.cells cells T)) := by
  refine hr.add (i := ⟨w.heap.size, 0, lim⟩) rfl ⟨_, cells, T, ext_same _ _ _, ?_, ha.mono (sub_ext hr _)⟩
  show (w.heap.push _)[w.heap.size]? = _
  simp

/-- old elements, new ones, and what is beyond -/
theorem joined_ok {esz len b lim : Nat} (hp : 0 < esz) {d : List AVal} {els0 : T8 (List AVal)} {old : List Value} (hol : old.length = len * esz)
    (hold : ∀ m, m < len → ∃ us, All2 (VR ρ ω) (elem m d els0) us ∧ us.length = esz ∧ (∀ u ∈ us, u.oneCell' = true) ∧ ∀ k u, us[k]? = some u → old[m * esz + k]? = some u)
    {new : List (List AVal)} {vals : List Value} (hn : ElsOk ρ ω esz new vals) {rest : Array Value} (hlim : (len + new.length) * esz ≤ lim) (hsz : lim ≤ (old.toArray ++ vals.toArray ++ rest).size) :
    ArrOk ρ ω (old.toArray ++ vals.toArray ++ rest) ⟨b, 0, lim⟩ esz (len + new.length) d (putEls len new els0) := by
  have hvl := hn.len
  have get : ∀ q, (old.toArray ++ vals.toArray ++ rest)[q]? = if q < len * esz then old[q]? else if q < len * esz + new.length * esz then vals[q - len * esz]? else rest[q - (len * esz + new.length * esz)]? := by
    intro q
    by_cases h1 : q < len * esz
    · rw [if_pos h1, Array.getElem?_append_left (by simp; omega), Array.getElem?_append_left (by simp; omega)]
      simp
    · rw [if_neg h1]
      by_cases h2 : q < len * esz + new.length * esz
      · rw [if_pos h2, Array.getElem?_append_left (by simp; omega), Array.getElem?_append_right (by simp; omega)]
        simp [hol]
      · rw [if_neg h2, Array.getElem?_append_right (by simp; omega)]
        simp [hol, hvl]
  refine ⟨hlim, by show 0 + lim ≤ _; omega, fun m hm => ?_⟩
  rw [elem_putEls]
  by_cases h1 : len ≤ m
  · rw [if_pos h1]
    have hml : m - len < new.length := by omega
    rw [List.getElem?_eq_getElem hml]
    obtain ⟨us, u1, u2, u3, u4⟩ := hn.els _ _ (List.getElem?_eq_getElem hml)
    simp only
    rw [orElse_ne (by intro e; rw [e] at u1; have := u1.length; simp at this; omega)]
    refine ⟨us, u1, u2, u3, fun k u hk => ?_⟩
    have hkl : k < esz := by have := (List.getElem?_eq_some_iff.1 hk).1; omega
    have e1 : m * esz = len * esz + (m - len) * esz := by rw [← Nat.add_mul]; congr 1; omega
    have e2 : (m - len + 1) * esz ≤ new.length * esz := Nat.mul_le_mul_right _ hml
    rw [Nat.add_mul] at e2
    show (old.toArray ++ vals.toArray ++ rest)[0 + m * esz + k]? = some u
    rw [get, if_neg (by omega), if_pos (by omega), ← u4 k u hk]
    congr 1
    omega
  · rw [if_neg h1]
    obtain ⟨us, u1, u2, u3, u4⟩ := hold m (by omega)
    refine ⟨us, u1, u2, u3, fun k u hk => ?_⟩
    have hkl : k < esz := by have := (List.getElem?_eq_some_iff.1 hk).1; omega
    have e2 : (m + 1) * esz ≤ len * esz := Nat.mul_le_mul_right _ (by omega)
    rw [Nat.add_mul] at e2
    show (old.toArray ++ vals.toArray ++ rest)[0 + m * esz + k]? = some u
    rw [get, if_pos (by omega), ← u4 k u hk]
    congr 1
    omega
end Go.Ex

namespace Go.Ex
open Go
variable {P : Program} {ρ : Pth → Option BI} {ω : Nat → Value} {H : AH} {w : World}
variable {t u e e' ty : TypeId} {esz bytes : Nat}

theorem elsOk_get {d : List AVal} {els : T8 (List AVal)} {j0 len : Nat} {old : List Value} (h : ElsOk ρ ω esz (elemsFrom d els j0 len) old) :
    ∀ m, m < len → ∃ us, All2 (VR ρ ω) (elem (j0 + m) d els) us ∧ us.length = esz ∧ (∀ u ∈ us, u.oneCell' = true) ∧ ∀ k u, us[k]? = some u → old[m * esz + k]? = some u :=
  fun m hm => h.els m _ (elemsFrom_get d els j0 len m hm)

/-- what 'grown' makes -/
theorem grown_ok (hp : 0 < esz) {d : List AVal} {els : T8 (List AVal)} {off len b lim : Nat} (hoff : off % esz = 0) {old : List Value} (hold : ElsOk ρ ω esz (elemsFrom d els (off / esz) len) old)
    {new : List (List AVal)} {vals : List Value} (hn : ElsOk ρ ω esz new vals) {rest : Array Value} (hlim : (len + new.length) * esz ≤ lim) (hsz : lim ≤ (old.toArray ++ vals.toArray ++ rest).size) :
    ∃ els', grown esz d els off len new = .arr esz (len + new.length) d els' ∧ ArrOk ρ ω (old.toArray ++ vals.toArray ++ rest) ⟨b, 0, lim⟩ esz (len + new.length) d els' := by
  have hol : old.length = len * esz := by have := hold.len; rw [elemsFrom_length] at this; exact this
  unfold grown
  rw [lenL_eq]
  cases h0 : Nat.beq off 0 with
  | true =>
    obtain rfl := Nat.eq_of_beq_eq_true h0
    refine ⟨_, rfl, joined_ok hp hol (fun m hm => ?_) hn hlim hsz⟩
    have := elsOk_get hold m hm
    simpa using this
  | false =>
    refine ⟨_, rfl, joined_ok hp hol (fun m hm => ?_) hn hlim hsz⟩
    obtain ⟨us, u1, u2, u3, u4⟩ := elsOk_get hold m hm
    refine ⟨us, ?_, u2, u3, u4⟩
    rw [elem_putEls, if_pos (Nat.zero_le _)]
    have hg : (elemsFrom d els (Nat.div off esz) len)[m - 0]? = some (elem (off / esz + m) d els) := elemsFrom_get d els (off / esz) len m hm
    rw [hg]
    simp only
    rw [orElse_ne (by intro e; rw [e] at u1; have := u1.length; simp at this; omega)]
    exact u1

theorem rest_size {old vals : List Value} {rest : Array Value} {sLen n newCap : Nat} (h1 : old.length = sLen * esz) (h2 : vals.length = n * esz) (h3 : rest.size = (newCap - (sLen + n)) * esz) (hc : sLen + n ≤ newCap) :
    newCap * esz ≤ (old.toArray ++ vals.toArray ++ rest).size := by
  simp only [Array.size_append, List.size_toArray, h1, h2, h3]
  have : newCap * esz = (sLen + n) * esz + (newCap - (sLen + n)) * esz := by rw [← Nat.add_mul]; congr 1; omega
  rw [this, Nat.add_mul]
  omega

/-- old elements that stay, and new ones behind them -/
theorem joined_room {esz len b base lim : Nat} (hp : 0 < esz) {d : List AVal} {els0 : T8 (List AVal)} {c : Array Value}
    (hold : ∀ m, m < len → ∃ us, All2 (VR ρ ω) (elem m d els0) us ∧ us.length = esz ∧ (∀ u ∈ us, u.oneCell' = true) ∧ ∀ k u, us[k]? = some u → c[base + m * esz + k]? = some u)
    {new : List (List AVal)} {vals : List Value} (hn : ElsOk ρ ω esz new vals) (hlim : (len + new.length) * esz ≤ lim) (hsz : base + lim ≤ c.size) :
    ArrOk ρ ω (splice c (base + len * esz) vals) ⟨b, base, lim⟩ esz (len + new.length) d (putEls len new els0) := by
  have hvl := hn.len
  rw [Nat.add_mul] at hlim
  have hsp : base + len * esz + vals.length ≤ c.size := by omega
  refine ⟨by rw [Nat.add_mul]; exact hlim, by rw [splice_size hsp]; exact hsz, fun m hm => ?_⟩
  rw [elem_putEls]
  by_cases h1 : len ≤ m
  · rw [if_pos h1]
    have hml : m - len < new.length := by omega
    rw [List.getElem?_eq_getElem hml]
    obtain ⟨us, u1, u2, u3, u4⟩ := hn.els _ _ (List.getElem?_eq_getElem hml)
    simp only
    rw [orElse_ne (by intro e; rw [e] at u1; have := u1.length; simp at this; omega)]
    refine ⟨us, u1, u2, u3, fun k u hk => ?_⟩
    have hkl : k < esz := by have := (List.getElem?_eq_some_iff.1 hk).1; omega
    have e1 : m * esz = len * esz + (m - len) * esz := by rw [← Nat.add_mul]; congr 1; omega
    have e2 : (m - len + 1) * esz ≤ new.length * esz := Nat.mul_le_mul_right _ hml
    rw [Nat.add_mul] at e2
    show (splice c (base + len * esz) vals)[base + m * esz + k]? = some u
    rw [splice_get hsp, if_neg (by omega), if_pos (by omega), ← u4 k u hk]
    congr 1
    omega
  · rw [if_neg h1]
    obtain ⟨us, u1, u2, u3, u4⟩ := hold m (by omega)
    refine ⟨us, u1, u2, u3, fun k u hk => ?_⟩
    have hkl : k < esz := by have := (List.getElem?_eq_some_iff.1 hk).1; omega
    have e2 : (m + 1) * esz ≤ len * esz := Nat.mul_le_mul_right _ (by omega)
    rw [Nat.add_mul] at e2
    show (splice c (base + len * esz) vals)[base + m * esz + k]? = some u
    rw [splice_get hsp, if_pos (by omega)]
    exact u4 k u hk

theorem grown_room (hp : 0 < esz) {d : List AVal} {els : T8 (List AVal)} {off len m : Nat} {i : BI} {c : Array Value} (ha : ArrOk ρ ω c i esz m d els) (q1 : off % esz = 0) (q2 : off / esz + len ≤ m)
    {new : List (List AVal)} {vals : List Value} (hn : ElsOk ρ ω esz new vals) (hfit : off + (len * esz + new.length * esz) ≤ i.lim) :
    ∃ els', grown esz d els off len new = .arr esz (len + new.length) d els' ∧ ArrOk ρ ω (splice c (i.base + off + len * esz) vals) ⟨i.blk, i.base + off, i.lim - off⟩ esz (len + new.length) d els' := by
  have hoff : off / esz * esz = off := by
    have := Nat.div_add_mod off esz
    rw [q1, Nat.mul_comm] at this
    omega
  have hsz := ha.size
  have hold : ∀ q, q < len → ∃ us, All2 (VR ρ ω) (elem (off / esz + q) d els) us ∧ us.length = esz ∧ (∀ u ∈ us, u.oneCell' = true) ∧ ∀ k u, us[k]? = some u → c[i.base + off + q * esz + k]? = some u := by
    intro q hq
    obtain ⟨us, u1, u2, u3, u4⟩ := ha.els (off / esz + q) (by omega)
    refine ⟨us, u1, u2, u3, fun k u hk => ?_⟩
    rw [← u4 k u hk]
    congr 1
    rw [Nat.add_mul, hoff]
    omega
  unfold grown
  rw [lenL_eq]
  cases h0 : Nat.beq off 0 with
  | true =>
    obtain rfl := Nat.eq_of_beq_eq_true h0
    refine ⟨_, rfl, joined_room hp (fun q hq => ?_) hn (by rw [Nat.add_mul]; omega) (by omega)⟩
    have := hold q hq
    simpa using this
  | false =>
    refine ⟨_, rfl, joined_room hp (fun q hq => ?_) hn (by rw [Nat.add_mul]; omega) (by omega)⟩
    obtain ⟨us, u1, u2, u3, u4⟩ := hold q hq
    refine ⟨us, ?_, u2, u3, u4⟩
    rw [elem_putEls, if_pos (Nat.zero_le _)]
    have hg : (elemsFrom d els (Nat.div off esz) len)[q - 0]? = some (elem (off / esz + q) d els) := elemsFrom_get d els (off / esz) len q hq
    rw [hg]
    simp only
    rw [orElse_ne (by intro e; rw [e] at u1; have := u1.length; simp at this; omega)]
    exact u1

theorem append_sound (hr : HR P ρ ω H w) (hT : ElemT P t e esz bytes) (hp : 0 < esz) (hu : P.underlying u = some (.slice e')) {ts : List TypeId} {s x v : AVal} {s' x' : Value} (hs : VR ρ ω s s') (hx : VR ρ ω x x')
    {new : List (List AVal)} (hel : elemsOf H esz x = some new) {H' : AH} (h : appendV H esz bytes s new = .ok v H') :
    ∃ ρ' v' w', (Builtin.append_ (t :: u :: ts).toArray ty #[s', x']).run P w = .ok v' w' ∧ VR ρ' ω v v' ∧ Step P ρ ω H w ρ' H' w' := by
  obtain ⟨vals2, hn, hlen, hcellsA⟩ := elems_sound hr hp hx hel
  have hcells := hcellsA w rfl
  have hcells2 := hcellsA w.drew rfl
  unfold appendV at h
  simp only [lenL_eq] at h
  cases hz : Nat.beq new.length 0 with
  | true =>
    rw [hz] at h
    simp only [cond] at h
    have hn0 : new.length = 0 := Nat.eq_of_beq_eq_true hz
    have hv0 : vals2 = [] := by have := hn.len; rw [hn0] at this; simpa using this
    have idle : ∀ (b : Option Addr) (n c : Nat), n ≤ c → s' = .slice b n c → v = s → H' = H → ∃ ρ' v' w', (Builtin.append_ (t :: u :: ts).toArray ty #[s', x']).run P w = .ok v' w' ∧ VR ρ' ω v v' ∧ Step P ρ ω H w ρ' H' w' := by
      intro b n c hle e1 e2 e3
      subst e1 e2 e3
      refine ⟨ρ, _, w, append_room hT hu (w' := w) hlen hcells (by omega) (fun a _ => ?_) (fun _ => rfl), ?_, .refl hr⟩
      · rw [hv0]; rfl
      · rw [hn0]; exact hs
    cases hs with
    | snil => simp only [R.ok.injEq] at h; exact idle _ _ _ (Nat.le_refl _) rfl h.1.symm h.2.symm
    | se a c => simp only [R.ok.injEq] at h; exact idle _ _ _ (Nat.zero_le _) rfl h.1.symm h.2.symm
    | sg id off len ez cap i hi hl hlim => simp only [R.ok.injEq] at h; exact idle _ _ _ hl rfl h.1.symm h.2.symm
    | sl id off len cap i hi =>
      simp only at h
      cases hc : Nat.ble len cap with
      | false => rw [hc] at h; cases h
      | true =>
        rw [hc] at h
        simp only [R.ok.injEq] at h
        exact idle _ _ _ (Nat.le_of_ble_eq_true hc) rfl h.1.symm h.2.symm
    | _ => cases h
  | false =>
    rw [hz] at h
    simp only [cond] at h
    have hez : Nat.beq esz 0 = false := by
      cases hq : Nat.beq esz 0 with
      | false => rfl
      | true => have := Nat.eq_of_beq_eq_true hq; omega
    rw [hez] at h
    simp only at h
    have hnpos : 0 < new.length := by
      rcases Nat.eq_zero_or_pos new.length with e0 | e0
      · rw [e0] at hz; cases hz
      · exact e0
    cases hs with
    | snil =>
      simp only at h
      cases hsm : small new.length bytes with
      | false => rw [hsm] at h; cases h
      | true =>
        rw [hsm] at h
        simp only [R.ok.injEq] at h
        obtain ⟨rfl, rfl⟩ := h
        obtain ⟨newCap, rest, c1, c2, c3⟩ := append_grows (ty := ty) (ts := ts) (b := none) (sLen := 0) (sCap := 0) (old := []) hT hu hlen hcells2 rfl (by omega) (by rw [Nat.zero_add]; exact hsm)
        have hsz := rest_size (esz := esz) (old := []) (sLen := 0) (by simp) hn.len c2 c1
        have hok : ArrOk ρ ω (([] : List Value).toArray ++ vals2.toArray ++ rest) ⟨w.heap.size, 0, newCap * esz⟩ esz (0 + new.length) [] (putEls 0 new .nil) :=
          joined_ok hp (by simp) (fun m hm => absurd hm (Nat.not_lt_zero _)) hn (Nat.mul_le_mul_right _ c1) hsz
        rw [Nat.zero_add] at hok
        have hst := newArr_step' (w := w.drew) (T := e) hr.drew (lim := newCap * esz) hok
        refine ⟨_, _, _, c3, ?_, hst.of_drew⟩
        rw [Nat.zero_add]
        have := VR.sg (ρ := ext ρ H.next ⟨w.heap.size, 0, newCap * esz⟩) (ω := ω) H.next 0 new.length esz newCap ⟨w.heap.size, 0, newCap * esz⟩ (ext_same _ _ _) (by omega) (by simp)
        exact this
    | sl id off len cap i hi =>
      simp only at h
      cases ho : H.m.get .dead id with
      | arr esz' m d els =>
        rw [ho] at h
        simp only at h
        cases hq : (Nat.beq esz esz' && (Nat.beq (Nat.mod off esz) 0 && Nat.ble (Nat.add (Nat.div off esz) len) m)) with
        | false => rw [hq] at h; cases h
        | true =>
          rw [hq] at h
          simp only at h
          rw [Bool.and_eq_true, Bool.and_eq_true] at hq
          obtain rfl := Nat.eq_of_beq_eq_true hq.1
          have q1 : off % esz = 0 := Nat.eq_of_beq_eq_true hq.2.1
          have q2 : off / esz + len ≤ m := Nat.le_of_ble_eq_true hq.2.2
          have hok := hr.ok id
          rw [ho] at hok
          obtain ⟨i', c, T, hi', hc, ha⟩ := hok
          rw [hi] at hi'; cases hi'
          have hoff : off / esz * esz = off := by
            have := Nat.div_add_mod off esz
            rw [q1, Nat.mul_comm] at this
            omega
          cases hroom : Nat.ble (Nat.add len new.length) cap with
          | true =>
            rw [hroom] at h
            simp only at h
            have hroom := Nat.le_of_ble_eq_true hroom
            cases hfit : Nat.ble (Nat.add (Nat.add (Nat.div off esz) len) new.length) m with
            | false => rw [hfit] at h; cases h
            | true =>
              rw [hfit] at h
              simp only [R.ok.injEq] at h
              obtain ⟨rfl, rfl⟩ := h
              have hfit : off / esz + len + new.length ≤ m := Nat.le_of_ble_eq_true hfit
              have hput := ha.putEls hp hn hfit
              have e1 : i.base + (off / esz + len) * esz = i.base + off + len * esz := by rw [Nat.add_mul, hoff]; omega
              have hvl := hn.len
              have hmul : (off / esz + len + new.length) * esz ≤ m * esz := Nat.mul_le_mul_right _ hfit
              rw [Nat.add_mul, Nat.add_mul, hoff] at hmul
              have hl := ha.lim
              have hsz := ha.size
              have hstore := run_storeCells_at (P := P) i.blk (i.base + off + len * esz) T vals2 0 c w hc (by omega) hn.one
              simp only [Nat.add_zero] at hstore
              have hsp : i.base + off + len * esz + vals2.length ≤ c.size := by omega
              refine ⟨ρ, _, w.setRow i.blk (splice c (i.base + off + len * esz) vals2), append_room hT hu hlen hcells hroom (fun a ea => ?_) (fun e => by cases e), .sl id off _ cap i hi, ?_⟩
              · cases ea
                rw [addr_add]
                exact hstore
              · refine hr.set hi (by rw [ho]; rfl) rfl rfl rfl (setRow_size _ _ _) (fun b hb => setRow_other w i.blk b _ hb) ⟨i, _, T, hi, setRow_heap w i.blk c _ T (0, 0) hc, ?_⟩
                rw [← e1]
                exact hput
          | false =>
            rw [hroom] at h
            simp only at h
            have hnr : ¬ len + new.length ≤ cap := by
              intro hle
              have : Nat.ble (Nat.add len new.length) cap = true := Nat.ble_eq_true_of_le hle
              rw [this] at hroom; cases hroom
            cases hsm : small (Nat.add len new.length) bytes with
            | false => rw [hsm] at h; cases h
            | true =>
              rw [hsm] at h
              simp only [R.ok.injEq] at h
              obtain ⟨rfl, rfl⟩ := h
              obtain ⟨old, ho1, ho2⟩ := ha.elems hp q1 q2
              have hol : old.length = len * esz := by have := ho1.len; rw [elemsFrom_length] at this; exact this
              have hold : (Builtin.firstCells esz len (.slice (some ⟨i.blk, i.base + off, none⟩) len cap)).run P w.drew = .ok old.toArray w.drew := by
                show (loadCells ⟨i.blk, i.base + off, none⟩ (len * esz)).run P w.drew = _
                rw [← hol]
                exact load_cells (w := w.drew) hc ho2
              obtain ⟨newCap, rest, c1, c2, c3⟩ := append_grows (ty := ty) (ts := ts) hT hu hlen hcells2 hold hnr hsm
              obtain ⟨els', hg, hok⟩ := grown_ok (b := w.heap.size) hp q1 ho1 hn (Nat.mul_le_mul_right esz c1) (rest_size hol hn.len c2 c1)
              have hst := newArr_step' (w := w.drew) (T := e) hr.drew (lim := newCap * esz) hok
              refine ⟨_, _, _, c3, ?_, by rw [hg]; exact hst.of_drew⟩
              exact VR.sg (ρ := ext ρ H.next ⟨w.heap.size, 0, newCap * esz⟩) (ω := ω) H.next 0 (len + new.length) esz newCap ⟨w.heap.size, 0, newCap * esz⟩ (ext_same _ _ _) c1 (by simp)
      | ro _ _ _ _ => rw [ho] at h; cases h
      | dead => rw [ho] at h; cases h
      | lp _ _ _ _ _ => rw [ho] at h; cases h
      | mp _ => rw [ho] at h; cases h
    | sg id off len ez cap i hi hl hlim =>
      simp only at h
      cases ho : H.m.get .dead id with
      | arr esz' m d els =>
        rw [ho] at h
        simp only at h
        cases hq : (Nat.beq esz esz' && (Nat.beq esz ez && (Nat.beq (Nat.mod off esz) 0 && (Nat.ble (Nat.add (Nat.div off esz) len) m && small (Nat.add len new.length) bytes)))) with
        | false => rw [hq] at h; cases h
        | true =>
          rw [hq] at h
          simp only [R.ok.injEq] at h
          obtain ⟨rfl, rfl⟩ := h
          simp only [Bool.and_eq_true] at hq
          obtain ⟨hq1, hq2, hq3, hq4, hsm⟩ := hq
          obtain rfl := Nat.eq_of_beq_eq_true hq1
          obtain rfl := Nat.eq_of_beq_eq_true hq2
          have q1 : off % esz = 0 := Nat.eq_of_beq_eq_true hq3
          have q2 : off / esz + len ≤ m := Nat.le_of_ble_eq_true hq4
          have hok := hr.ok id
          rw [ho] at hok
          obtain ⟨i', c, T, hi', hc, ha⟩ := hok
          rw [hi] at hi'; cases hi'
          obtain ⟨old, ho1, ho2⟩ := ha.elems hp q1 q2
          have hol : old.length = len * esz := by have := ho1.len; rw [elemsFrom_length] at this; exact this
          by_cases hroom : len + new.length ≤ cap
          · -- there is room in the array that is there
            have hvl := hn.len
            have hcap : (len + new.length) * esz ≤ cap * esz := Nat.mul_le_mul_right _ hroom
            rw [Nat.add_mul] at hcap
            have hsz := ha.size
            have hstore := run_storeCells_at (P := P) i.blk (i.base + off + len * esz) T vals2 0 c w hc (by omega) hn.one
            simp only [Nat.add_zero] at hstore
            have hsp : i.base + off + len * esz + vals2.length ≤ c.size := by omega
            have hobj : ∃ els', grown esz d els off len new = .arr esz (len + new.length) d els' ∧ ArrOk ρ ω (splice c (i.base + off + len * esz) vals2) ⟨i.blk, i.base + off, i.lim - off⟩ esz (len + new.length) d els' :=
              grown_room hp ha q1 q2 hn (by omega)
            obtain ⟨els', hg, hok'⟩ := hobj
            refine ⟨ext ρ H.next ⟨i.blk, i.base + off, i.lim - off⟩, _, w.setRow i.blk (splice c (i.base + off + len * esz) vals2), append_room hT hu hlen hcells hroom (fun a ea => ?_) (fun e => by cases e), ?_, ?_⟩
            · cases ea
              rw [addr_add]
              exact hstore
            · exact VR.sg (ρ := ext ρ H.next ⟨i.blk, i.base + off, i.lim - off⟩) (ω := ω) H.next 0 (len + new.length) esz cap ⟨i.blk, i.base + off, i.lim - off⟩ (ext_same _ _ _) hroom (by simp only [Nat.zero_add]; omega)
            · refine hr.move (i' := ⟨i.blk, i.base + off, i.lim - off⟩) hi (by rw [ho]; rfl) rfl rfl rfl rfl (setRow_size _ _ _) (fun b hb => setRow_other w i.blk b _ hb) ?_
              rw [hg]
              exact ⟨_, _, T, ext_same _ _ _, setRow_heap w i.blk c _ T (0, 0) hc, hok'.mono (sub_ext hr _)⟩
          · have hold : (Builtin.firstCells esz len (.slice (some ⟨i.blk, i.base + off, none⟩) len cap)).run P w.drew = .ok old.toArray w.drew := by
              show (loadCells ⟨i.blk, i.base + off, none⟩ (len * esz)).run P w.drew = _
              rw [← hol]
              exact load_cells (w := w.drew) hc ho2
            obtain ⟨newCap, rest, c1, c2, c3⟩ := append_grows (ty := ty) (ts := ts) hT hu hlen hcells2 hold hroom hsm
            obtain ⟨els', hg, hok'⟩ := grown_ok (b := w.heap.size) hp q1 ho1 hn (Nat.mul_le_mul_right esz c1) (rest_size hol hn.len c2 c1)
            have hd := hr.drew.drop id
            have hst := newArr_step' (w := w.drew) (T := e) hd.hr (lim := newCap * esz) hok'
            refine ⟨_, _, _, c3, ?_, by rw [hg]; exact (hd.trans hst).of_drew⟩
            exact VR.sg (ρ := ext ρ H.next ⟨w.heap.size, 0, newCap * esz⟩) (ω := ω) H.next 0 (len + new.length) esz newCap ⟨w.heap.size, 0, newCap * esz⟩ (ext_same _ _ _) c1 (by simp)
      | ro _ _ _ _ => rw [ho] at h; cases h
      | dead => rw [ho] at h; cases h
      | lp _ _ _ _ _ => rw [ho] at h; cases h
      | mp _ => rw [ho] at h; cases h
    | _ => cases h
end Go.Ex

namespace Go.Ex
open Go
variable {P : Program} {ρ : Pth → Option BI} {ω : Nat → Value} {H : AH} {w : World}
variable {t e ty : TypeId} {esz : Nat}

/-! ### copy -/
theorem takeL_eq (n : Nat) (l : List (List AVal)) : takeL n l = l.take n := by
  induction n generalizing l with
  | zero => simp [takeL]
  | succ n ih => cases l with
    | nil => rfl
    | cons a l => simp only [takeL, ih, List.take_succ_cons]

theorem ElsOk.take {new : List (List AVal)} {vals : List Value} (h : ElsOk ρ ω esz new vals) {n : Nat} (hn : n ≤ new.length) : ElsOk ρ ω esz (new.take n) (vals.take (n * esz)) where
  len := by
    have h1 := h.len
    have : n * esz ≤ new.length * esz := Nat.mul_le_mul_right _ hn
    rw [List.length_take, List.length_take, Nat.min_eq_left hn]
    omega
  one := fun v hv => h.one v (List.mem_of_mem_take hv)
  els := fun j cs hj => by
    rw [List.getElem?_take] at hj
    split at hj
    · rename_i hjn
      obtain ⟨us, u1, u2, u3, u4⟩ := h.els j cs hj
      refine ⟨us, u1, u2, u3, fun k u hk => ?_⟩
      have hkl : k < esz := by have := (List.getElem?_eq_some_iff.1 hk).1; omega
      have : (j + 1) * esz ≤ n * esz := Nat.mul_le_mul_right _ hjn
      rw [Nat.add_mul] at this
      rw [List.getElem?_take, if_pos (by omega)]
      exact u4 k u hk
    · cases hj

theorem copy_run (he : P.underlying t = some (.slice e)) (hsz : tSize P e = some esz) {ts : List TypeId} {b : Option Addr} {dl cap m : Nat} {x' : Value} {vals : List Value} {w' : World}
    (hlen : (Builtin.lenOf x').run P w = .ok m w) (hcells : (Builtin.firstCells esz (Nat.min m dl) x').run P w = .ok vals.toArray w)
    (hst : ∀ a, b = some a → (storeCells a vals).run P w = .ok () w') (hnone : b = none → w' = w) :
    (Builtin.copy_ (t :: ts).toArray ty #[.slice b dl cap, x']).run P w = .ok (goInt (Nat.min m dl)) w' := by
  unfold Builtin.copy_
  simp only [List.getElem?_toArray, List.getElem?_cons_zero, List.getElem?_cons_succ]
  cases b with
  | none =>
    have := hnone rfl
    subst this
    simp [run_underlying he, run_size hsz, hlen, hcells]
  | some a =>
    have := hst a rfl
    simp [run_underlying he, run_size hsz, hlen, hcells, this]

theorem copy_sound (hr : HR P ρ ω H w) (he : P.underlying t = some (.slice e)) (hsz : tSize P e = some esz) (hp : 0 < esz) {ts : List TypeId} {d x v : AVal} {d' x' : Value} (hd : VR ρ ω d d') (hx : VR ρ ω x x')
    {new : List (List AVal)} (hel : elemsOf H esz x = some new) {H' : AH} (h : copyV H esz d new = .ok v H') :
    ∃ v' w', (Builtin.copy_ (t :: ts).toArray ty #[d', x']).run P w = .ok v' w' ∧ VR ρ ω v v' ∧ Step P ρ ω H w ρ H' w' := by
  obtain ⟨vals, hn, hlen, hcells⟩ := elems_sound' hr hp hx hel
  have main : ∀ (b : Option Addr) (dl cap : Nat), lenV d = some dl → d' = .slice b dl cap → (dl = 0 ∨ (∃ id off i, ρ id = some i ∧ b = some ⟨i.blk, i.base + off, none⟩ ∧
      ((∃ c, d = .sl id off dl c) ∨ (∃ z, d = .sg id off dl z)))) → (dl ≠ 0 ∨ b = none ∨ ∃ a, b = some a) →
      ∃ v' w', (Builtin.copy_ (t :: ts).toArray ty #[d', x']).run P w = .ok v' w' ∧ VR ρ ω v v' ∧ Step P ρ ω H w ρ H' w' := by
    intro b dl cap hl hd' hb _
    subst hd'
    unfold copyV at h
    rw [hl] at h
    simp only [lenL_eq, takeL_eq] at h
    have hmin : (new.take dl).length = Nat.min new.length dl := by rw [List.length_take]; exact Nat.min_comm _ _
    have hle : Nat.min new.length dl ≤ new.length := Nat.min_le_left _ _
    have htk : new.take dl = new.take (Nat.min new.length dl) := by
      rcases Nat.le_total dl new.length with h1 | h1
      · rw [show Nat.min new.length dl = dl from Nat.min_eq_right h1]
      · rw [show Nat.min new.length dl = new.length from Nat.min_eq_left h1, List.take_of_length_le h1, List.take_of_length_le (Nat.le_refl _)]
    have hok := hn.take hle
    rw [← htk] at hok
    have hc := hcells w _ rfl hle
    cases hz : Nat.beq (new.take dl).length 0 with
    | true =>
      rw [hz] at h
      simp only [cond, R.ok.injEq] at h
      obtain ⟨rfl, rfl⟩ := h
      have hz := Nat.eq_of_beq_eq_true hz
      have h0 : Nat.min new.length dl = 0 := by omega
      have hv0 : vals.take (Nat.min new.length dl * esz) = [] := by rw [h0]; simp
      refine ⟨_, w, copy_run he hsz hlen hc (w' := w) (fun a _ => ?_) (fun _ => rfl), ?_, .refl hr⟩
      · rw [hv0]; rfl
      · rw [h0]; exact .int _ _
    | false =>
      rw [hz] at h
      simp only [cond] at h
      have hez : Nat.beq esz 0 = false := by
        cases hq : Nat.beq esz 0 with
        | false => rfl
        | true => have := Nat.eq_of_beq_eq_true hq; omega
      rw [hez] at h
      simp only at h
      have hdl : dl ≠ 0 := by
        intro e0
        subst e0
        simp at hz
      rcases hb with hb | ⟨id, off, i, hi, rfl, hb⟩
      · exact absurd hb hdl
      · have hw : writeEls H esz id off (new.take dl) (.int .i64 (.ofNat (new.take dl).length)) = .ok v H' := by
          rcases hb with ⟨c, rfl⟩ | ⟨z, rfl⟩ <;> exact h
        unfold writeEls at hw
        simp only [lenL_eq] at hw
        cases ho : H.m.get .dead id with
        | arr esz' m dd els =>
          rw [ho] at hw
          simp only at hw
          cases hq : (Nat.beq esz esz' && (Nat.beq (Nat.mod off esz) 0 && Nat.ble (Nat.add (Nat.div off esz) (new.take dl).length) m)) with
          | false => rw [hq] at hw; cases hw
          | true =>
            rw [hq] at hw
            simp only [cond, R.ok.injEq] at hw
            obtain ⟨rfl, rfl⟩ := hw
            rw [Bool.and_eq_true, Bool.and_eq_true] at hq
            obtain rfl := Nat.eq_of_beq_eq_true hq.1
            have q1 : off % esz = 0 := Nat.eq_of_beq_eq_true hq.2.1
            have q2 : off / esz + (new.take dl).length ≤ m := Nat.le_of_ble_eq_true hq.2.2
            have hobj := hr.ok id
            rw [ho] at hobj
            obtain ⟨i', c, T, hi', hcc, ha⟩ := hobj
            rw [hi] at hi'; cases hi'
            have hoff : off / esz * esz = off := by
              have := Nat.div_add_mod off esz
              rw [q1, Nat.mul_comm] at this
              omega
            have hput := ha.putEls hp hok q2
            rw [hoff] at hput
            have hvl := hok.len
            have hmul : (off / esz + (new.take dl).length) * esz ≤ m * esz := Nat.mul_le_mul_right _ q2
            rw [Nat.add_mul, hoff] at hmul
            have hl' := ha.lim
            have hsz' := ha.size
            have hstore := run_storeCells_at (P := P) i.blk (i.base + off) T (vals.take (Nat.min new.length dl * esz)) 0 c w hcc (by omega) hok.one
            simp only [Nat.add_zero] at hstore
            refine ⟨_, w.setRow i.blk (splice c (i.base + off) (vals.take (Nat.min new.length dl * esz))), copy_run he hsz hlen hc (fun a ea => ?_) (fun e0 => by cases e0), ?_, ?_⟩
            · cases ea
              exact hstore
            · rw [hmin]; exact .int _ _
            · exact hr.set hi (by rw [ho]; rfl) rfl rfl rfl (setRow_size _ _ _) (fun b hb => setRow_other w i.blk b _ hb) ⟨i, _, T, hi, setRow_heap w i.blk c _ T (0, 0) hcc, hput⟩
        | ro _ _ _ _ => rw [ho] at hw; cases hw
        | dead => rw [ho] at hw; cases hw
        | lp _ _ _ _ _ => rw [ho] at hw; cases hw
        | mp _ => rw [ho] at hw; cases hw
  cases hd with
  | snil => exact main none 0 0 rfl rfl (.inl rfl) (.inr (.inl rfl))
  | se a c => exact main (some a) 0 c rfl rfl (.inl rfl) (.inr (.inr ⟨a, rfl⟩))
  | sl id off len cap i hi => exact main _ len cap rfl rfl (.inr ⟨id, off, i, hi, rfl, .inl ⟨cap, rfl⟩⟩) (.inr (.inr ⟨_, rfl⟩))
  | sg id off len ez cap i hi hl hlim => exact main _ len cap rfl rfl (.inr ⟨id, off, i, hi, rfl, .inr ⟨ez, rfl⟩⟩) (.inr (.inr ⟨_, rfl⟩))
  | _ => cases h
end Go.Ex

namespace Go.Ex
open Go
variable {P : Program} {ρ : Pth → Option BI} {ω : Nat → Value} {H : AH} {w : World}

/-! ### maps with integer keys -/
def EntR (ρ : Pth → Option BI) (ω : Nat → Value) (a : AVal × AVal) (b : MapEntry) : Prop := VR ρ ω a.1 b.key ∧ VR ρ ω a.2 b.val

theorem findK_sound {k : AVal} {k' : Value} (hk : VR ρ ω k k') {kk : IntKind} : ∀ {es : List (AVal × AVal)} {l : List MapEntry}, All2 (EntR ρ ω) es l → ∀ {r : Option AVal}, findK k es = some r → ∀ i : Nat,
    (r = none ∧ Instr.findNow (.int kk) k' l i = some none ∧ ∀ (v : AVal) (e' : MapEntry), VR ρ ω v e'.val → e'.key = k' → All2 (EntR ρ ω) (setK k v es) (l ++ [e'])) ∨
    (∃ v j e, r = some v ∧ Instr.findNow (.int kk) k' l i = some (some (i + j, e.val)) ∧ VR ρ ω v e.val ∧ l[j]? = some e ∧ e.key = k' ∧ (∃ a m, k' = .int a m) ∧
      ∀ (u : AVal) (u' : Value), VR ρ ω u u' → All2 (EntR ρ ω) (setK k u es) (l.modify j fun e => { e with key := k', val := u' })) := by
  intro es l hall
  induction hall with
  | nil =>
    intro r h i
    simp only [findK, Option.some.injEq] at h
    subst h
    exact .inl ⟨rfl, rfl, fun v e' hv he => .cons ⟨by rw [he]; exact hk, hv⟩ .nil⟩
  | @cons a b l1 r1 hab ht ih =>
    intro r h i
    obtain ⟨ka, va⟩ := a
    obtain ⟨hka, hva⟩ := hab
    simp only at hka hva
    cases hk with
    | int a m =>
      cases ka with
      | int b' n =>
        obtain ⟨bk, bv, bb⟩ := b
        simp only at hka hva
        cases hka
        simp only [findK] at h
        cases h1 : kindEq a b' with
        | false => rw [h1] at h; cases h
        | true =>
          obtain rfl := kindEq_iff.1 h1
          rw [h1] at h
          simp only [cond] at h
          cases h2 : intEq m n with
          | true =>
            rw [h2] at h
            simp only [Option.some.injEq] at h
            subst h
            have hmn : (m == n) = true := by rw [← intEq_iff]; exact h2
            obtain rfl := eq_of_beq hmn
            refine .inr ⟨va, 0, ⟨.int a m, bv, bb⟩, rfl, ?_, hva, rfl, rfl, ⟨a, m, rfl⟩, fun u u' hu => ?_⟩
            · simp [Instr.findNow, Instr.sameNow]
            · simp only [setK, AVal.eq1, h1, h2, Bool.and_self, cond]
              exact .cons ⟨.int _ _, hu⟩ ht
          | false =>
            rw [h2] at h
            simp only at h
            have hmn : (m == n) = false := by rw [← intEq_iff]; exact h2
            rcases ih h (i + 1) with ⟨e1, e2, e3⟩ | ⟨v, j, e, e1, e2, e3, e4, e5, e6, e7⟩
            · refine .inl ⟨e1, ?_, fun v e' hv he => ?_⟩
              · simp only [Instr.findNow, Instr.sameNow, if_true, hmn]
                exact e2
              · simp only [setK, AVal.eq1, h1, h2, Bool.and_false, cond]
                exact .cons ⟨.int _ _, hva⟩ (e3 v e' hv he)
            · refine .inr ⟨v, j + 1, e, e1, ?_, e3, by simpa using e4, e5, e6, fun u u' hu => ?_⟩
              · simp only [Instr.findNow, Instr.sameNow, if_true, hmn]
                rw [e2]
                congr 3
                omega
              · simp only [setK, AVal.eq1, h1, h2, Bool.and_false, cond, List.modify_succ_cons]
                exact .cons ⟨.int _ _, hva⟩ (e7 u u' hu)
      | _ => cases h
    | _ => cases ka <;> cases h

theorem run_checkKey_int {kt : TypeId} {kk : IntKind} (h : P.underlying kt = some (.int kk)) (em : Bool) (v : Value) : (Instr.checkKey em 10000 kt v).run P w = .ok () w := by
  show (Instr.checkKey em (9999 + 1) kt v).run P w = _
  unfold Instr.checkKey
  rw [Sem.run_bind, run_underlying h, Result.andThen_ok]
  cases v <;> rfl

theorem lookup_sound (hr : HR P ρ ω H w) {t kt el : TypeId} {kk : IntKind} (ht : P.underlying t = some (.map kt el)) (hkt : P.underlying kt = some (.int kk)) {z : AVal} (hz : tZero P el = some z)
    {m k v : AVal} {m' k' : Value} (hm : VR ρ ω m m') (hk : VR ρ ω k k') {ok : Bool} (h : lookupV H z ok m k = v) (hv : v ≠ .bad) :
    ∃ v', (Instr.lookup t m' k' ok).run P w = .ok v' w ∧ VR ρ ω v v' := by
  cases hm with
  | map id i hi =>
    unfold lookupV at h
    simp only at h
    cases ho : H.m.get .dead id with
    | mp es =>
      rw [ho] at h
      simp only at h
      have hobj := hr.ok id
      rw [ho] at hobj
      obtain ⟨i', ents, clk, hi', hc, hall⟩ := hobj
      rw [hi] at hi'; cases hi'
      obtain ⟨it, zv, hin, hzv, hof⟩ := tZero_some hz
      have hzr : (zeroValue el).run P w = .ok zv w := by simp [zeroValue, typeInfo, hin, hzv]
      have hgo : (getObj i.blk).run P w = .ok (.map ents clk) w := by simp [getObj, Sem.run, hc]
      cases hf : findK k es with
      | none => rw [hf] at h; exact absurd h.symm hv
      | some r =>
        rw [hf] at h
        rcases findK_sound hk (kk := kk) hall hf 0 with ⟨rfl, e2, _⟩ | ⟨v1, j, e, rfl, e2, e3, _⟩
        · simp only at h
          have hfk : (Instr.findKey kt k' ents.toList).run P w = .ok none w := by simp [Instr.findKey, run_underlying hkt, e2]
          refine ⟨_, by simp only [Instr.lookup, Sem.run_bind, run_underlying ht, Result.andThen_ok, Sem.run_pure, hgo, run_checkKey_int hkt, hfk, hzr]; rfl, ?_⟩
          cases ok with
          | false => rw [← h]; exact ofValue_sound hof
          | true => rw [← h]; exact .tup _ _ (.cons (ofValue_sound hof) (.cons (.bool false) .nil))
        · simp only at h
          have hfk : (Instr.findKey kt k' ents.toList).run P w = .ok (some (0 + j, e.val)) w := by simp [Instr.findKey, run_underlying hkt, e2]
          refine ⟨_, by simp only [Instr.lookup, Sem.run_bind, run_underlying ht, Result.andThen_ok, Sem.run_pure, hgo, run_checkKey_int hkt, hfk]; rfl, ?_⟩
          cases ok with
          | false => rw [← h]; exact e3
          | true => rw [← h]; exact .tup _ _ (.cons e3 (.cons (.bool true) .nil))
    | ro _ _ _ _ => rw [ho] at h; exact absurd h.symm hv
    | dead => rw [ho] at h; exact absurd h.symm hv
    | lp _ _ _ _ _ => rw [ho] at h; exact absurd h.symm hv
    | arr _ _ _ _ => rw [ho] at h; exact absurd h.symm hv
  | _ => exact absurd h.symm hv

theorem mapup_sound (hr : HR P ρ ω H w) {t kt el : TypeId} {kk : IntKind} (ht : P.underlying t = some (.map kt el)) (hkt : P.underlying kt = some (.int kk))
    {m k u v : AVal} {m' k' u' : Value} (hm : VR ρ ω m m') (hk : VR ρ ω k k') (hu : VR ρ ω u u') {H' : AH} (h : mapupV H m k u = .ok v H') :
    v = undefV ∧ ∃ w', (Instr.mapUpdate t m' k' u').run P w = .ok () w' ∧ Step P ρ ω H w ρ H' w' := by
  cases hm with
  | map id i hi =>
    unfold mapupV at h
    simp only at h
    cases ho : H.m.get .dead id with
    | mp es =>
      rw [ho] at h
      simp only at h
      have hobj := hr.ok id
      rw [ho] at hobj
      obtain ⟨i', ents, clk, hi', hc, hall⟩ := hobj
      rw [hi] at hi'; cases hi'
      have hgo : (getObj i.blk).run P w = .ok (.map ents clk) w := by simp [getObj, Sem.run, hc]
      have hlt : i.blk < w.heap.size := (Array.getElem?_eq_some_iff.1 hc).1
      cases hf : findK k es with
      | none => rw [hf] at h; cases h
      | some r =>
        rw [hf] at h
        simp only [R.ok.injEq] at h
        obtain ⟨rfl, rfl⟩ := h
        have hset : ∀ o : Obj, (setObj i.blk o).run P w = .ok () { w with heap := w.heap.setIfInBounds i.blk o } := fun o => by simp [setObj, Sem.run, hc]
        have fin : ∀ (ents' : Array MapEntry) (clk' : Nat), All2 (EntR ρ ω) (setK k u es) ents'.toList →
            Step P ρ ω H w ρ (H.set id (.mp (setK k u es))) { w with heap := w.heap.setIfInBounds i.blk (.map ents' clk') } := by
          intro ents' clk' ha
          refine hr.set hi (by rw [ho]; rfl) rfl rfl rfl (by simp) (fun b hb => ?_) ⟨i, ents', clk', hi, ?_, ha⟩
          · show (w.heap.setIfInBounds i.blk _)[b]? = _
            rw [Array.getElem?_setIfInBounds_ne (Ne.symm hb)]
          · show (w.heap.setIfInBounds i.blk _)[i.blk]? = _
            rw [Array.getElem?_setIfInBounds_self_of_lt hlt]
        refine ⟨rfl, ?_⟩
        rcases findK_sound hk (kk := kk) hall hf 0 with ⟨rfl, e2, e3⟩ | ⟨v1, j, e, rfl, e2, e3, e4, e5, ⟨a, n, rfl⟩, e7⟩
        · have hfk : (Instr.findKey kt k' ents.toList).run P w = .ok none w := by simp [Instr.findKey, run_underlying hkt, e2]
          refine ⟨_, by simp only [Instr.mapUpdate, Sem.run_bind, run_underlying ht, Result.andThen_ok, hgo, run_checkKey_int hkt, hfk]; exact hset _, fin _ _ ?_⟩
          have := e3 u { key := k', val := u', born := clk } hu rfl
          simpa using this
        · have hfk : (Instr.findKey kt (.int a n) ents.toList).run P w = .ok (some (j, e.val)) w := by simp [Instr.findKey, run_underlying hkt, e2]
          have hek : ents[j]? = some e := by rw [← Array.getElem?_toList]; exact e4
          have hst : (Instr.keyThatStays (.int a n) (.int a n)).run P w = .ok (.int a n) w := by simp [Instr.keyThatStays, Instr.sameBits]
          refine ⟨_, by simp only [Instr.mapUpdate, Sem.run_bind, run_underlying ht, Result.andThen_ok, hgo, run_checkKey_int hkt, hfk, hek, Option.map_some, Option.getD_some, e5, hst]; exact hset _, fin _ _ ?_⟩
          have := e7 u u' hu
          rw [Array.toList_modify]
          exact this
    | ro _ _ _ _ => rw [ho] at h; cases h
    | dead => rw [ho] at h; cases h
    | lp _ _ _ _ _ => rw [ho] at h; cases h
    | arr _ _ _ _ => rw [ho] at h; cases h
  | _ => cases h
end Go.Ex

namespace Go.Ex
open Go
variable {P : Program} {ρ : Pth → Option BI} {ω : Nat → Value} {H : AH} {w : World}

/-! ### == of structs -/
theorem run_part_cell {t : TypeId} {d : TypeDesc} (h : P.underlying t = some d) (hd : d = .bool ∨ ∃ k, d = .int k) {cs : Array Value} {o : Nat} {v : Value} (hc : cs[o]? = some v) (w : World) :
    (part t cs o).run P w = .ok v w := by
  have ha : (isAgg t).run P w = .ok false w := by
    refine run_isAgg ?_ w
    unfold tAgg
    rw [h]
    rcases hd with rfl | ⟨k, rfl⟩ <;> rfl
  unfold part
  rw [Sem.run_bind, ha, Result.andThen_ok]
  simp [hc]

theorem eqFields_sound {xs ys : List AVal} {vs us : List Value} (hx : All2 (VR ρ ω) xs vs) (hy : All2 (VR ρ ω) ys us) (d : Nat) (w : World) :
    ∀ (fs : List Field) {l : List Nat} {b : Bool}, flatF P fs = some l → eqCells xs ys l = some b → (Op.eqFields (d + 1) vs.toArray us.toArray fs).run P w = .ok b w
  | [], l, b, h, hb => by
    simp only [flatF, Option.some.injEq] at h
    subst h
    simp only [eqCells, Option.some.injEq] at hb
    subst hb
    simp [Op.eqFields]
  | f :: fs, l, b, h, hb => by
    unfold flatF at h
    cases hn : f.name == "_" with
    | true => rw [hn] at h; cases h
    | false =>
      rw [hn] at h
      simp only [cond] at h
      have hne : f.name ≠ "_" := by intro e; rw [e] at hn; simp at hn
      have main : ∀ k', P.underlying f.type = some (.int k') → (flatF P fs).map (f.offset :: ·) = some l →
          (Op.eqFields (d + 1) vs.toArray us.toArray (f :: fs)).run P w = .ok b w := by
        intro k' hu hl
        cases hr : flatF P fs with
        | none => rw [hr] at hl; cases hl
        | some r =>
          rw [hr] at hl
          simp only [Option.map_some, Option.some.injEq] at hl
          subst hl
          unfold eqCells at hb
          have step : ∀ (x y : Value) (c : Bool), vs.toArray[f.offset]? = some x → us.toArray[f.offset]? = some y → (Op.equalIn (d + 1) f.type x y).run P w = .ok c w →
              (c = true → eqCells xs ys r = some b) → (c = false → b = false) → (Op.eqFields (d + 1) vs.toArray us.toArray (f :: fs)).run P w = .ok b w := by
            intro x y c h1 h2 h3 h4 h5
            simp only [Op.eqFields, if_pos hne, Sem.run_bind, run_part_cell hu (.inr ⟨k', rfl⟩) h1, run_part_cell hu (.inr ⟨k', rfl⟩) h2, Result.andThen_ok, h3]
            cases c with
            | true => simp only [Bool.not_true, Bool.false_eq_true, if_false]; exact eqFields_sound hx hy d w fs hr (h4 rfl)
            | false => simp only [Bool.not_false, if_true, Sem.run_pure]; rw [h5 rfl]
          split at hb
          · rename_i k m k2 n e1 e2
            obtain ⟨v1, f1, g1⟩ := hx.get _ _ e1
            obtain ⟨u1, f2, g2⟩ := hy.get _ _ e2
            cases g1; cases g2
            cases hk : kindEq k k2 with
            | false => rw [hk] at hb; cases hb
            | true =>
              obtain rfl := kindEq_iff.1 hk
              rw [hk] at hb
              simp only [cond] at hb
              refine step _ _ (m == n) (by simpa using f1) (by simpa using f2) (run_equalIn_int w d f.type _ k' m n hu) (fun hc => ?_) (fun hc => ?_)
              · rw [intEq_iff, hc] at hb; exact hb
              · rw [intEq_iff, hc] at hb; simp only [Option.some.injEq] at hb; exact hb.symm
          · cases hb
      split at h
      · rename_i k hu; exact main k hu h
      · cases h

theorem eqs_sound {t : TypeId} {fs : Array Field} (ht : P.underlying t = some (.struct fs)) (hg : P.eqGuardType P.depth t = false) (hs : P.stoodInHeld t = false) {l : List Nat} (hl : flatF P fs.toList = some l)
    {op : BinOp} {neg : Bool} (hop : (op = .eql ∧ neg = false) ∨ (op = .neq ∧ neg = true)) {xo yo : Operand} {x y v : AVal} {x' y' : Value} (hx : VR ρ ω x x') (hy : VR ρ ω y y') (h : eqsV neg l x y = v) (hv : v ≠ .bad) :
    ∃ v', (do eqGuard op t xo yo x' y'; binOp op t x' y' : Sem Value).run P w = .ok v' w ∧ VR ρ ω v v' := by
  have hf : P.fieldsOf t = fs := by unfold Program.fieldsOf; rw [ht]
  cases hx with
  | agg xs vs h1 h1c =>
    cases hy with
    | agg ys us h2 h2c =>
      simp only [eqsV] at h
      cases hb : eqCells xs ys l with
      | none => rw [hb] at h; exact absurd h.symm hv
      | some b =>
        rw [hb] at h
        simp only at h
        have hrun : (Op.equalIn 10000 t (.agg vs.toArray) (.agg us.toArray)).run P w = .ok b w := by
          show (Op.equalIn (9998 + 1 + 1) t _ _).run P w = _
          rw [run_equalIn_struct w (9998 + 1) t _ _ (by rw [hf]; exact ht) hs, hf]
          exact eqFields_sound h1 h2 9998 w fs.toList hl hb
        rcases hop with ⟨rfl, rfl⟩ | ⟨rfl, rfl⟩
        · refine ⟨.bool b, ?_, by rw [← h]; exact .bool b⟩
          rw [Sem.run_bind, run_eqGuard_agg w _ _ _ _ _ _ hg, Result.andThen_ok, run_eql_struct, hrun, Result.andThen_ok]
        · refine ⟨.bool (!b), ?_, by rw [← h]; exact .bool _⟩
          rw [Sem.run_bind, run_eqGuard_agg w _ _ _ _ _ _ hg, Result.andThen_ok, run_neq_struct, hrun, Result.andThen_ok]
    | _ => exact absurd h.symm hv
  | _ => cases y <;> exact absurd h.symm hv
end Go.Ex

namespace Go.Ex
open Go
variable {P : Program} {ρ : Pth → Option BI} {ω : Nat → Value} {H : AH} {w : World}

/-! ### one operation -/
def OpRes (P : Program) (ρ : Pth → Option BI) (ω : Nat → Value) (H : AH) (w : World) (v : AVal) (H' : AH) (s : Sem Next) : Prop :=
  ∃ ρ' r w', s.run P w = .ok r w' ∧ ((∃ v', r = .value v' ∧ VR ρ' ω v v') ∨ (r = .skip ∧ v = undefV)) ∧ Step P ρ ω H w ρ' H' w'

theorem OpRes.ofPure (hr : HR P ρ ω H w) {v : AVal} {s : Sem Value} (h : ∃ v', s.run P w = .ok v' w ∧ VR ρ ω v v') : OpRes P ρ ω H w v H (do pure (.value (← s))) := by
  obtain ⟨v', h1, h2⟩ := h
  exact ⟨ρ, .value v', w, by rw [Sem.run_bind, h1, Result.andThen_ok, Sem.run_pure], .inl ⟨v', rfl, h2⟩, .refl hr⟩
theorem OpRes.ofStep {v : AVal} {H' : AH} {s : Sem Value} (h : ∃ ρ' v' w', s.run P w = .ok v' w' ∧ VR ρ' ω v v' ∧ Step P ρ ω H w ρ' H' w') : OpRes P ρ ω H w v H' (do pure (.value (← s))) := by
  obtain ⟨ρ', v', w', h1, h2, h3⟩ := h
  exact ⟨ρ', .value v', w', by rw [Sem.run_bind, h1, Result.andThen_ok, Sem.run_pure], .inl ⟨v', rfl, h2⟩, h3⟩
theorem OpRes.ofUnit {v : AVal} {H' : AH} {s : Sem Unit} (h : v = undefV ∧ ∃ w', s.run P w = .ok () w' ∧ Step P ρ ω H w ρ H' w') : OpRes P ρ ω H w v H' (do s; pure .skip) := by
  obtain ⟨h0, w', h1, h3⟩ := h
  exact ⟨ρ, .skip, w', by rw [Sem.run_bind, h1, Result.andThen_ok, Sem.run_pure], .inr ⟨rfl, h0⟩, h3⟩

theorem notBad_ok {x v : AVal} {H' : AH} (h : notBad x H = .ok v H') : x = v ∧ v ≠ .bad ∧ H' = H := by
  unfold notBad at h
  split at h
  · cases h
  · rename_i hx
    simp only [R.ok.injEq] at h
    obtain ⟨rfl, rfl⟩ := h
    exact ⟨rfl, hx, rfl⟩

section
variable {a : Act} {N : Nat} {S : List (Nat × Pth)} {G : Ctx} {L : List AVal} {e : T8 AVal}

theorem slcO_sound (hg : GlobOk P ρ) (he : EnvOk ρ ω S e a.tmps) (hc : CtxOk ρ ω G L e a.tmps) {t el : TypeId} {s : Nat} (ht : tElem P t = some el) (hs : tSize P el = some s) {lo hi : Option Operand} {lo' hi' : Option COpd}
    (hlo : cOpt P N S G lo = some lo') (hhi : cOpt P N S G hi = some hi') {x v : AVal} {x' : Value} (hx : VR ρ ω x x') (h : slcO s x (lo'.map (·.ev L e)) (hi'.map (·.ev L e)) = v) (hv : v ≠ .bad) :
    ∃ v', (Instr.sliceAt t x' (lo.map a.eval) (hi.map a.eval) none).run P w = .ok v' w ∧ VR ρ ω v v' := by
  have one : ∀ {o : Option Operand} {o' : Option COpd}, cOpt P N S G o = some o' → (o = none ∧ o' = none) ∨ ∃ y c, o = some y ∧ o' = some c ∧ VR ρ ω (c.ev L e) (a.eval y) := by
    intro o o' ho
    cases o with
    | none => simp only [cOpt, Option.some.injEq] at ho; exact .inl ⟨rfl, ho.symm⟩
    | some y =>
      simp only [cOpt, Option.map_eq_some_iff] at ho
      obtain ⟨c, h1, rfl⟩ := ho
      exact .inr ⟨y, c, rfl, rfl, cOpd_sound hg he hc h1⟩
  rcases one hlo with ⟨rfl, rfl⟩ | ⟨yl, cl, rfl, rfl, hl⟩ <;> rcases one hhi with ⟨rfl, rfl⟩ | ⟨yh, ch, rfl, rfl, hh⟩
  · exact slcV_sound ht hs (.inl ⟨rfl, rfl⟩) (.inl ⟨rfl, rfl⟩) hx h hv
  · simp only [Option.map_some, Option.map_none, slcO] at h
    cases hn : natOf (ch.ev L e) with
    | none => rw [hn] at h; exact absurd h.symm hv
    | some n =>
      rw [hn] at h
      obtain ⟨k, hk⟩ := natOf_sound hh hn
      exact slcV_sound ht hs (.inl ⟨rfl, rfl⟩) (.inr ⟨k, n, by rw [Option.map_some, hk], rfl⟩) hx h hv
  · simp only [Option.map_some, Option.map_none, slcO] at h
    cases hn : natOf (cl.ev L e) with
    | none => rw [hn] at h; exact absurd h.symm hv
    | some n =>
      rw [hn] at h
      obtain ⟨k, hk⟩ := natOf_sound hl hn
      exact slcV_sound ht hs (.inr ⟨k, by rw [Option.map_some, hk]⟩) (.inl ⟨rfl, rfl⟩) hx h hv
  · simp only [Option.map_some, slcO] at h
    cases hn : natOf (cl.ev L e) with
    | none => rw [hn] at h; exact absurd h.symm hv
    | some n =>
      cases hm : natOf (ch.ev L e) with
      | none => rw [hn, hm] at h; exact absurd h.symm hv
      | some m =>
        rw [hn, hm] at h
        obtain ⟨k, hk⟩ := natOf_sound hl hn
        obtain ⟨k2, hk2⟩ := natOf_sound hh hm
        exact slcV_sound ht hs (.inr ⟨k, by rw [Option.map_some, hk]⟩) (.inr ⟨k2, m, by rw [Option.map_some, hk2], rfl⟩) hx h hv
end
end Go.Ex

namespace Go.Ex
open Go
variable {P : Program} {ρ : Pth → Option BI} {ω : Nat → Value} {H : AH} {w : World}
variable {a : Act} {N : Nat} {S : List (Nat × Pth)} {G : Ctx} {L : List AVal} {e : T8 AVal}

def isCallOp : Op → Bool
  | .call _ => true
  | _ => false

theorem op_sound (hω : ∀ i, (ω i).oneCell' = true) (hr : HR P ρ ω H w) (hg : GlobOk P ρ) (he : EnvOk ρ ω S e a.tmps) (hc : CtxOk ρ ω G L e a.tmps) {o : Oper} (hnc : isCallOp o.op = false) {cop : COp} (hcop : cOp P N S G o.op = some cop)
    {call : Caller} {v : AVal} {H' : AH} (hdo : doOp call cop L e H = .ok v H') : OpRes P ρ ω H w v H' (execOp a.eval o) := by
  have opd : ∀ {x : Operand} {c : COpd}, cOpd P N S G x = some c → VR ρ ω (c.ev L e) (a.eval x) := fun h => cOpd_sound hg he hc h
  obtain ⟨dst, op, type, pos, after, guard⟩ := o
  simp only at hcop hnc
  cases op with
  | call c => cases hnc
  | load t x =>
    simp only [cOp, Option.bind_eq_some_iff, Option.map_eq_some_iff] at hcop
    obtain ⟨ag, h1, s, h2, c, h3, rfl⟩ := hcop
    obtain ⟨h4, h5, rfl⟩ := notBad_ok hdo
    exact .ofPure hr (load_sound hr h1 h2 (opd h3) h4 h5)
  | store t x u =>
    simp only [cOp, Option.bind_eq_some_iff, Option.map_eq_some_iff] at hcop
    obtain ⟨s, h2, c, h3, d, h4, rfl⟩ := hcop
    exact .ofUnit (store_sound hω hr h2 (opd h3) (opd h4) hdo)
  | move x =>
    simp only [cOp, Option.map_eq_some_iff] at hcop
    obtain ⟨c, h3, rfl⟩ := hcop
    obtain ⟨h4, h5, rfl⟩ := notBad_ok hdo
    refine ⟨ρ, _, w, rfl, .inl ⟨_, rfl, ?_⟩, .refl hr⟩
    rw [← h4]; exact opd h3
  | assign x =>
    simp only [cOp, Option.map_eq_some_iff] at hcop
    obtain ⟨c, h3, rfl⟩ := hcop
    obtain ⟨h4, h5, rfl⟩ := notBad_ok hdo
    refine ⟨ρ, _, w, rfl, .inl ⟨_, rfl, ?_⟩, .refl hr⟩
    rw [← h4]; exact opd h3
  | unOp u t x =>
    simp only [cOp, Option.map_eq_some_iff] at hcop
    obtain ⟨c, h3, rfl⟩ := hcop
    obtain ⟨h4, h5, rfl⟩ := notBad_ok hdo
    exact .ofPure hr (un_sound (opd h3) h4 h5)
  | extract x i =>
    simp only [cOp, Option.map_eq_some_iff] at hcop
    obtain ⟨c, h3, rfl⟩ := hcop
    obtain ⟨h4, h5, rfl⟩ := notBad_ok hdo
    exact .ofPure hr (extract_sound (opd h3) h4 h5)
  | slice t x lo hi mx =>
    cases mx with
    | some m => simp only [cOp] at hcop; cases hcop
    | none =>
      simp only [cOp, Option.bind_eq_some_iff, Option.map_eq_some_iff] at hcop
      obtain ⟨el, h1, s, h2, c, h3, lo', hl, hi', hh, rfl⟩ := hcop
      obtain ⟨h4, h5, rfl⟩ := notBad_ok hdo
      exact .ofPure hr (slcO_sound hg he hc h1 h2 hl hh (opd h3) h4 h5)
  | field s x i =>
    simp only [cOp, Option.bind_eq_some_iff, Option.map_eq_some_iff] at hcop
    obtain ⟨f, h1, z, h2, ag, h3, c, h6, rfl⟩ := hcop
    obtain ⟨h4, h5, rfl⟩ := notBad_ok hdo
    exact .ofPure hr (fld_sound h1 h3 h2 (opd h6) h4 h5)
  | pick c x y =>
    simp only [cOp, Option.bind_eq_some_iff, Option.map_eq_some_iff] at hcop
    obtain ⟨c1, h1, c2, h2, c3, h3, rfl⟩ := hcop
    obtain ⟨h4, h5, rfl⟩ := notBad_ok hdo
    obtain ⟨v', h6, h7⟩ := pick_sound (P := P) (w := w) (opd h1) (opd h2) (opd h3) h4 h5
    exact ⟨ρ, _, w, h6, .inl ⟨v', rfl, h7⟩, .refl hr⟩
  | nilCheck x =>
    simp only [cOp, Option.map_eq_some_iff] at hcop
    obtain ⟨c, h3, rfl⟩ := hcop
    obtain ⟨h4, h5, rfl⟩ := notBad_ok hdo
    obtain ⟨v', h6, h7⟩ := nilc_sound (P := P) (w := w) (opd h3) h4 h5 (o := ⟨dst, .nilCheck x, type, pos, after, guard⟩) rfl rfl
    exact ⟨ρ, _, w, h6, .inl ⟨v', rfl, h7⟩, .refl hr⟩
  | box t x =>
    simp only [cOp, Option.map_eq_some_iff] at hcop
    obtain ⟨c, h3, rfl⟩ := hcop
    exact .ofStep (box_step hω hr (opd h3) hdo)
  | fieldAddr s x i =>
    simp only [cOp, Option.bind_eq_some_iff] at hcop
    obtain ⟨f, h1, z, h2, hcop⟩ := hcop
    cases hz : Nat.beq z 0 with
    | true => rw [hz] at hcop; cases hcop
    | false =>
      rw [hz] at hcop
      simp only [cond, Option.map_eq_some_iff] at hcop
      obtain ⟨c, h3, rfl⟩ := hcop
      obtain ⟨h4, h5, rfl⟩ := notBad_ok hdo
      exact .ofPure hr (faddr_sound h1 h2 (by intro e0; rw [e0] at hz; cases hz) (opd h3) h4 h5)
  | lookup t m k ok =>
    simp only [cOp] at hcop
    split at hcop
    · rename_i kt el hu
      split at hcop
      · rename_i kk hk
        simp only [Option.bind_eq_some_iff, Option.map_eq_some_iff] at hcop
        obtain ⟨z, h1, cm, h2, ck, h3, rfl⟩ := hcop
        obtain ⟨h4, h5, rfl⟩ := notBad_ok hdo
        exact .ofPure hr (lookup_sound hr hu hk h1 (opd h2) (opd h3) h4 h5)
      · cases hcop
    · cases hcop
  | mapUpdate t m k u =>
    simp only [cOp] at hcop
    split at hcop
    · rename_i kt el hu
      split at hcop
      · rename_i kk hk
        simp only [Option.bind_eq_some_iff, Option.map_eq_some_iff] at hcop
        obtain ⟨cm, h1, ck, h2, cu, h3, rfl⟩ := hcop
        exact .ofUnit (mapup_sound hr hu hk (opd h1) (opd h2) (opd h3) hdo)
      · cases hcop
    · cases hcop
  | alloc t =>
    simp only [cOp, Option.map_eq_some_iff] at hcop
    obtain ⟨z, hz, rfl⟩ := hcop
    obtain ⟨it, zv, hi, hzv, hof⟩ := tZero_some hz
    obtain ⟨ρ', v', w', h1, h2, h3⟩ := box_step (T := t) hω hr (ofValue_sound (ρ := ρ) (ω := ω) hof) hdo
    refine .ofStep ⟨ρ', v', w', ?_, h2, h3⟩
    rw [← h1]
    unfold Instr.alloc
    have hzr : (zeroValue t).run P w = .ok zv w := by simp [zeroValue, typeInfo, hi, hzv]
    rw [Sem.run_bind, hzr, Result.andThen_ok]
  | build t ps =>
    simp only [cOp, Option.bind_eq_some_iff] at hcop
    obtain ⟨z, hz, hcop⟩ := hcop
    split at hcop
    · rename_i fs hu
      cases hall : fs.toList.all (fun f => (tSize P f.type).isSome) with
      | false => rw [hall] at hcop; cases hcop
      | true =>
        rw [hall] at hcop
        simp only [cond, Option.map_eq_some_iff] at hcop
        obtain ⟨l, hl, rfl⟩ := hcop
        obtain ⟨h4, h5, rfl⟩ := notBad_ok hdo
        exact .ofPure hr (build_sound hω hg he hc hz hu hall hl h4 h5)
    · rename_i n el hu
      simp only [Option.bind_eq_some_iff, Option.map_eq_some_iff] at hcop
      obtain ⟨s, hs, l, hl, rfl⟩ := hcop
      obtain ⟨h4, h5, rfl⟩ := notBad_ok hdo
      exact .ofPure hr (buildA_sound hω hg he hc hz hu hs hl h4 h5)
    · cases hcop
  | buildSlice t n ps =>
    simp only [cOp, Option.bind_eq_some_iff] at hcop
    obtain ⟨el, h1, s, h2, z, h3, hcop⟩ := hcop
    cases hb : Nat.blt (n * s) 65536 && (Nat.blt 0 s && lenIs z.cells s) with
    | false => rw [hb] at hcop; cases hcop
    | true =>
      rw [hb] at hcop
      simp only [Bool.and_eq_true] at hb
      simp only [cond, Option.map_eq_some_iff] at hcop
      obtain ⟨l, hl, rfl⟩ := hcop
      exact .ofStep (bsl_step hω hr hg he hc h1 h2 h3 hb.1 hb.2.1 hb.2.2 hl hdo)
  | binOp op t x y q =>
    simp only [cOp, Option.bind_eq_some_iff] at hcop
    obtain ⟨cx, h1, cy, h2, hcop⟩ := hcop
    split at hcop
    · simp only [Option.some.injEq] at hcop; subst hcop
      obtain ⟨h4, h5, rfl⟩ := notBad_ok hdo
      exact .ofPure hr (bin_sound (opd h1) (opd h2) h4 h5)
    · rename_i hu; simp only [Option.some.injEq] at hcop; subst hcop
      obtain ⟨h4, h5, rfl⟩ := notBad_ok hdo
      exact .ofPure hr (cmp_sound (cls := 0) hu (opd h1) (opd h2) h4 h5)
    · rename_i hu; simp only [Option.some.injEq] at hcop; subst hcop
      obtain ⟨h4, h5, rfl⟩ := notBad_ok hdo
      exact .ofPure hr (cmp_sound (cls := 1) ⟨_, hu⟩ (opd h1) (opd h2) h4 h5)
    · rename_i hu; simp only [Option.some.injEq] at hcop; subst hcop
      obtain ⟨h4, h5, rfl⟩ := notBad_ok hdo
      exact .ofPure hr (cmp_sound (cls := 2) ⟨_, hu⟩ (opd h1) (opd h2) h4 h5)
    · rename_i hu; simp only [Option.some.injEq] at hcop; subst hcop
      obtain ⟨h4, h5, rfl⟩ := notBad_ok hdo
      exact .ofPure hr (cmp_sound (cls := 3) ⟨_, _, _, hu⟩ (opd h1) (opd h2) h4 h5)
    · rename_i hu; simp only [Option.some.injEq] at hcop; subst hcop
      obtain ⟨h4, h5, rfl⟩ := notBad_ok hdo
      exact .ofPure hr (cmp_sound (cls := 4) ⟨_, _, hu⟩ (opd h1) (opd h2) h4 h5)
    · rename_i fs hu
      cases hgs : P.eqGuardType P.depth t || P.stoodInHeld t with
      | true => rw [hgs] at hcop; cases hcop
      | false =>
        rw [hgs] at hcop
        simp only [Bool.or_eq_false_iff] at hgs
        simp only [cond, Option.bind_eq_some_iff] at hcop
        obtain ⟨l, hl, hcop⟩ := hcop
        split at hcop
        · simp only [Option.some.injEq] at hcop; subst hcop
          obtain ⟨h4, h5, rfl⟩ := notBad_ok hdo
          exact .ofPure hr (eqs_sound hu hgs.1 hgs.2 hl (.inl ⟨rfl, rfl⟩) (opd h1) (opd h2) h4 h5)
        · simp only [Option.some.injEq] at hcop; subst hcop
          obtain ⟨h4, h5, rfl⟩ := notBad_ok hdo
          exact .ofPure hr (eqs_sound hu hgs.1 hgs.2 hl (.inr ⟨rfl, rfl⟩) (opd h1) (opd h2) h4 h5)
        · cases hcop
    · cases hcop
  | convert s d x =>
    simp only [cOp] at hcop
    split at hcop
    · rename_i k' k hs hd
      simp only [Option.map_eq_some_iff] at hcop
      obtain ⟨c, h3, rfl⟩ := hcop
      obtain ⟨h4, h5, rfl⟩ := notBad_ok hdo
      exact .ofPure hr (conv_sound ⟨_, hs⟩ hd (opd h3) h4 h5)
    · cases hcop
    · cases hcop
  | makeFunc fn first caps =>
    cases fn with
    | func f =>
      simp only [cOp] at hcop
      cases hb : Nat.beq first.size 0 with
      | false => rw [hb] at hcop; cases hcop
      | true =>
        rw [hb] at hcop
        simp only [cond, Option.map_eq_some_iff] at hcop
        obtain ⟨cs, h1, rfl⟩ := hcop
        simp only [doOp, pureV, notBad, R.ok.injEq] at hdo
        obtain ⟨h4, rfl⟩ := hdo
        have hf : first = #[] := Array.eq_empty_of_size_eq_zero (Nat.eq_of_beq_eq_true hb)
        subst hf
        refine .ofPure hr ⟨.func (.func f) #[] (caps.map a.eval), by simp [Instr.makeFunc], ?_⟩
        rw [← h4]
        have h6 := VR.fnv (ρ := ρ) (ω := ω) f _ _ (cOpds_sound hg he hc h1)
        rw [← List.map_toArray, Array.toArray_toList] at h6
        exact h6
    | _ => simp only [cOp] at hcop; cases hcop
  | makeMap t r =>
    cases r with
    | some x => simp only [cOp] at hcop; cases hcop
    | none =>
      simp only [cOp, Option.some.injEq] at hcop
      subst hcop
      simp only [doOp, mkBlock, mkR, R.ok.injEq] at hdo
      obtain ⟨rfl, rfl⟩ := hdo
      exact .ofStep ⟨_, mkmap_step hr (t := t) rfl⟩
  | makeSlice t l c =>
    simp only [cOp, Option.bind_eq_some_iff] at hcop
    obtain ⟨el, h1, s, h2, b, h3, z, h4, hcop⟩ := hcop
    cases hb : Nat.blt 0 s && lenIs z.cells s with
    | false => rw [hb] at hcop; cases hcop
    | true =>
      rw [hb] at hcop
      simp only [Bool.and_eq_true] at hb
      simp only [Bool.not_true, cond, Option.bind_eq_some_iff, Option.map_eq_some_iff] at hcop
      obtain ⟨cl, h5, cc, h6, rfl⟩ := hcop
      simp only [doOp, mkBlock] at hdo
      cases hl : natOf (cl.ev L e) with
      | none => rw [hl] at hdo; cases hdo
      | some n =>
        cases hm : natOf (cc.ev L e) with
        | none => rw [hl, hm] at hdo; cases hdo
        | some m =>
          rw [hl, hm] at hdo
          simp only at hdo
          cases hq : Nat.ble n m && small m b with
          | false => rw [hq] at hdo; cases hdo
          | true =>
            rw [hq] at hdo
            simp only [Bool.and_eq_true] at hq
            simp only [cond, mkR, R.ok.injEq] at hdo
            obtain ⟨rfl, rfl⟩ := hdo
            exact .ofStep ⟨_, mksl_step hr h1 h2 h3 h4 hb.1 hb.2 (opd h5) (opd h6) hl hm (Nat.le_of_ble_eq_true hq.1) hq.2⟩
  | indexAddr t x i =>
    simp only [cOp] at hcop
    split at hcop
    · rename_i el hel
      simp only [Option.bind_eq_some_iff, Option.map_eq_some_iff] at hcop
      obtain ⟨s, h1, cx, h2, ci, h3, rfl⟩ := hcop
      obtain ⟨h4, h5, rfl⟩ := notBad_ok hdo
      exact .ofPure hr (iaddr_sound hel h1 (opd h2) (opd h3) h4 h5)
    · simp only [Option.bind_eq_some_iff, Option.map_eq_some_iff] at hcop
      obtain ⟨⟨n, el⟩, h0, s, h1, cx, h2, ci, h3, rfl⟩ := hcop
      obtain ⟨h4, h5, rfl⟩ := notBad_ok hdo
      exact .ofPure hr (iaddrA_sound h0 h1 (opd h2) (opd h3) h4 h5)
  | index t x i =>
    simp only [cOp] at hcop
    split at hcop
    · rename_i hu
      simp only [Option.bind_eq_some_iff, Option.map_eq_some_iff] at hcop
      obtain ⟨cx, h2, ci, h3, rfl⟩ := hcop
      obtain ⟨h4, h5, rfl⟩ := notBad_ok hdo
      exact .ofPure hr (idxS_sound hu (opd h2) (opd h3) h4 h5)
    · simp only [Option.bind_eq_some_iff, Option.map_eq_some_iff] at hcop
      obtain ⟨⟨n, el⟩, h0, s, h1, ag, h6, cx, h2, ci, h3, rfl⟩ := hcop
      obtain ⟨h4, h5, rfl⟩ := notBad_ok hdo
      exact .ofPure hr (idxA_sound h0 h1 h6 (opd h2) (opd h3) h4 h5)
  | _ => simp only [cOp] at hcop; cases hcop
end Go.Ex

namespace Go.Ex
open Go
variable {P : Program} {ρ : Pth → Option BI} {ω : Nat → Value} {H : AH} {w : World}
variable {a : Act} {N : Nat} {S : List (Nat × Pth)} {G : Ctx} {L : List AVal} {e : T8 AVal}

theorem map_toArray_of {l : Array Operand} {r : List Operand} (h : l.toList = r) (f : Operand → Value) : l.map f = (r.map f).toArray := by
  subst h; rw [← Array.toList_map]
theorem toArray_of {α : Type} {l : Array α} {r : List α} (h : l.toList = r) : l = r.toArray := by
  subst h; rfl

/-- a call of a function that is built in -/
theorem builtin_sound (hr : HR P ρ ω H w) (hg : GlobOk P ρ) (he : EnvOk ρ ω S e a.tmps) (hc : CtxOk ρ ω G L e a.tmps) {o : Oper} {c : Call} {b : Builtin} (ho : o.op = .call c) (hb : c.callee = .builtin b) {cop : COp} (hcop : cOp P N S G o.op = some cop)
    {call : Caller} {v : AVal} {H' : AH} (hdo : doOp call cop L e H = .ok v H') : OpRes P ρ ω H w v H' (execOp a.eval o) := by
  have opd : ∀ {x : Operand} {c : COpd}, cOpd P N S G x = some c → VR ρ ω (c.ev L e) (a.eval x) := fun h => cOpd_sound hg he hc h
  obtain ⟨dst, op, type, pos, after, guard⟩ := o
  obtain ⟨callee, args, argTypes⟩ := c
  simp only at hcop ho hb
  subst ho hb
  have hrun : (execOp a.eval ⟨dst, .call ⟨.builtin b, args, argTypes⟩, type, pos, after, guard⟩) = builtin b argTypes type (args.map fun | .const _ => true | _ => false) (args.map a.eval) := by
    simp only [execOp, resolve, invoke]
    rfl
  rw [hrun]
  simp only [cOp, cCall] at hcop
  split at hcop
  · rename_i x t hx ht
    split at hcop
    · rename_i el hu
      simp only [Option.map_eq_some_iff] at hcop
      obtain ⟨cx, h1, rfl⟩ := hcop
      obtain ⟨h4, h5, rfl⟩ := notBad_ok hdo
      rw [map_toArray_of hx, toArray_of ht]
      refine .ofPure hr (len_sound (e := el) ?_ (opd h1) h4 h5)
      unfold tElem; rw [hu]
    · rename_i hu
      simp only [Option.map_eq_some_iff] at hcop
      obtain ⟨cx, h1, rfl⟩ := hcop
      obtain ⟨h4, h5, rfl⟩ := notBad_ok hdo
      rw [map_toArray_of hx, toArray_of ht]
      exact .ofPure hr (lens_sound hu (opd h1) h4 h5)
    · rename_i n el hu
      simp only [Option.some.injEq] at hcop
      subst hcop
      simp only [doOp, pureV, notBad, COpd.ev, R.ok.injEq] at hdo
      obtain ⟨h4, rfl⟩ := hdo
      rw [map_toArray_of hx, toArray_of ht]
      refine .ofPure hr ⟨goInt n, by simp [Builtin.len_, run_underlying hu], ?_⟩
      rw [← h4]; exact .int _ _
    · rename_i el hu
      simp only [Option.map_eq_some_iff] at hcop
      obtain ⟨⟨n, e2⟩, h1, rfl⟩ := hcop
      simp only [doOp, pureV, notBad, COpd.ev, R.ok.injEq] at hdo
      obtain ⟨h4, rfl⟩ := hdo
      rw [map_toArray_of hx, toArray_of ht]
      refine .ofPure hr ⟨goInt n, by simp [Builtin.len_, run_underlying hu, run_underlying (arr_of h1)], ?_⟩
      rw [← h4]; exact .int _ _
    · cases hcop
  · rename_i s x t u ts hx ht
    simp only [Option.bind_eq_some_iff] at hcop
    obtain ⟨el, h1, el2, h2, sz, h3, by_, h4, z, h5, hcop⟩ := hcop
    cases hb : Nat.blt 0 sz && lenIs z.cells sz with
    | false => rw [hb] at hcop; cases hcop
    | true =>
      rw [hb] at hcop
      simp only [Bool.and_eq_true] at hb
      simp only [Bool.not_true, cond, Option.bind_eq_some_iff, Option.map_eq_some_iff] at hcop
      obtain ⟨cs, h6, cx, h7, rfl⟩ := hcop
      simp only [doOp] at hdo
      cases hel : elemsOf H sz (cx.ev L e) with
      | none => rw [hel] at hdo; cases hdo
      | some new =>
        rw [hel] at hdo
        obtain ⟨it, zv, hi, hzv, hof⟩ := tZero_some h5
        have hT : ElemT P t el sz by_ := ⟨elem_of h1, h3, h4, it, zv, hi, hzv, by
          have := (ofValue_cells (ρ := ρ) (ω := ω) hof).1.length
          rw [lenIs_iff hb.2] at this
          simpa using this.symm⟩
        rw [map_toArray_of hx, toArray_of ht]
        exact .ofStep (append_sound hr hT (by rw [← Nat.blt_eq]; exact hb.1) (elem_of h2) (opd h6) (opd h7) hel hdo)
  · rename_i d s t ts hx ht
    simp only [Option.bind_eq_some_iff] at hcop
    obtain ⟨el, h1, sz, h3, hcop⟩ := hcop
    cases hb : Nat.beq sz 0 with
    | true => rw [hb] at hcop; cases hcop
    | false =>
      rw [hb] at hcop
      simp only [cond, Option.bind_eq_some_iff, Option.map_eq_some_iff] at hcop
      obtain ⟨cd, h6, cs, h7, rfl⟩ := hcop
      simp only [doOp] at hdo
      cases hel : elemsOf H sz (cs.ev L e) with
      | none => rw [hel] at hdo; cases hdo
      | some new =>
        rw [hel] at hdo
        have hp : 0 < sz := by
          rcases Nat.eq_zero_or_pos sz with h | h
          · subst h; cases hb
          · exact h
        rw [map_toArray_of hx, toArray_of ht]
        obtain ⟨v', w', h8, h9, h10⟩ := copy_sound (ts := ts) (ty := type) hr (elem_of h1) h3 hp (opd h6) (opd h7) hel hdo
        exact .ofStep ⟨ρ, v', w', h8, h9, h10⟩
  · rename_i hx ht
    simp only [Option.map_eq_some_iff] at hcop
    obtain ⟨cs, h1, rfl⟩ := hcop
    obtain ⟨h4, h5, rfl⟩ := notBad_ok hdo
    rw [map_toArray_of rfl]
    exact .ofPure hr (max_sound (cOpds_sound hg he hc h1) h4 h5)
  · rename_i hx ht
    simp only [Option.map_eq_some_iff] at hcop
    obtain ⟨cs, h1, rfl⟩ := hcop
    obtain ⟨h4, h5, rfl⟩ := notBad_ok hdo
    rw [map_toArray_of rfl]
    exact .ofPure hr (min_sound (cOpds_sound hg he hc h1) h4 h5)
  · cases hcop
end Go.Ex

namespace Go.Ex
open Go
variable {P : Program} {ρ : Pth → Option BI} {ω : Nat → Value} {H : AH} {w : World}
variable {a : Act} {N : Nat} {S : List (Nat × Pth)} {A : List Nat} {G G' : Ctx} {L : List AVal} {e : T8 AVal}

/-! ### slots -/
theorem look_mem {l : List (Nat × Pth)} {t : Nat} {p : Pth} (h : look l t = some p) : (t, p) ∈ l := by
  induction l with
  | nil => cases h
  | cons x l ih =>
    obtain ⟨u, q⟩ := x
    unfold look at h
    cases hb : Nat.beq u t with
    | true =>
      rw [hb] at h
      simp only [cond, Option.some.injEq] at h
      rw [← Nat.eq_of_beq_eq_true hb, h]
      exact List.mem_cons_self ..
    | false => rw [hb] at h; exact List.mem_cons_of_mem _ (ih h)

theorem slots_inj {l : List (Nat × Pth)} (hs : slotsOk l = true) {t u : Nat} {p : Pth} (h1 : look l t = some p) (h2 : look l u = some p) : t = u := by
  induction l with
  | nil => cases h1
  | cons x l ih =>
    obtain ⟨s, q⟩ := x
    simp only [slotsOk, Bool.and_eq_true, List.all_eq_true] at hs
    obtain ⟨hall, hl⟩ := hs
    unfold look at h1 h2
    have key : ∀ {z : Nat}, look l z = some q → False := fun {z} hz => by
      have := hall _ (look_mem hz)
      simp only [Bool.not_eq_true'] at this
      rw [pthEq_iff.2 rfl] at this
      cases this.2
    cases b1 : Nat.beq s t with
    | true =>
      rw [b1] at h1
      simp only [cond, Option.some.injEq] at h1
      cases b2 : Nat.beq s u with
      | true => rw [← Nat.eq_of_beq_eq_true b1, ← Nat.eq_of_beq_eq_true b2]
      | false => rw [b2] at h2; subst h1; exact (key h2).elim
    | false =>
      rw [b1] at h1
      cases b2 : Nat.beq s u with
      | true =>
        rw [b2] at h2
        simp only [cond, Option.some.injEq] at h2
        subst h2
        exact (key h1).elim
      | false => rw [b2] at h2; exact ih hl h1 h2

theorem getD_set_same {tm : Array Value} {t : Nat} {v : Value} (h : t < tm.size) : (tm.setIfInBounds t v).getD t undef = v := by
  simp [Array.getD_eq_getD_getElem?, h]
theorem getD_set_ne' {tm : Array Value} {t u : Nat} {v : Value} (h : t ≠ u) : (tm.setIfInBounds t v).getD u undef = tm.getD u undef := by
  simp [Array.getD_eq_getD_getElem?, h]

/-- a temporary without a place is written -/
theorem EnvOk.free {tm : Array Value} (he : EnvOk ρ ω S e tm) {t : Nat} (ht : look S t = none) (v : Value) : EnvOk ρ ω S e (tm.setIfInBounds t v) := by
  intro u p hp
  rw [getD_set_ne' (fun h => by subst h; rw [ht] at hp; cases hp)]
  exact he u p hp
theorem EnvOk.slot {tm : Array Value} (hs : slotsOk S = true) (he : EnvOk ρ ω S e tm) {t : Nat} {p : Pth} (ht : look S t = some p) (hn : t < tm.size) {x : AVal} {v : Value} (hv : VR ρ ω x v) :
    EnvOk ρ ω S (e.put .bad x p) (tm.setIfInBounds t v) := by
  intro u q hq
  by_cases h : t = u
  · subst h
    rw [ht] at hq
    simp only [Option.some.injEq] at hq
    subst hq
    rw [get_put_same, getD_set_same hn]
    exact hv
  · rw [getD_set_ne' h, get_put_ne _ _ (fun h' => h (by subst h'; exact slots_inj hs ht hq))]
    exact he u q hq

/-! ### what is known in a region -/
structure CtxI (G : Ctx) : Prop where
  uniq : (G.g.map Prod.fst).Nodup
  nol : ∀ t i, (t, Src.cp (.l i)) ∉ G.g

theorem CtxI.start : CtxI ⟨[], 0⟩ := ⟨List.nodup_nil, fun _ _ h => by cases h⟩
theorem CtxOk.start {tm : Array Value} : CtxOk ρ ω ⟨[], 0⟩ [] e tm := ⟨rfl, fun _ _ h => (by cases h), fun _ _ h => (by cases h)⟩
theorem CtxOk.mono {ρ' : Pth → Option BI} (hs : Sub ρ ρ') {tm : Array Value} (h : CtxOk ρ ω G L e tm) : CtxOk ρ' ω G L e tm := ⟨h.len, h.lev, fun t s hl => (h.ok t s hl).mono hs⟩

theorem lookG_mem {l : List (Nat × Src)} {t : Nat} {s : Src} (h : lookG l t = some s) : (t, s) ∈ l := by
  induction l with
  | nil => cases h
  | cons x l ih =>
    obtain ⟨u, q⟩ := x
    unfold lookG at h
    cases hb : Nat.beq u t with
    | true =>
      rw [hb] at h
      simp only [cond, Option.some.injEq] at h
      rw [← Nat.eq_of_beq_eq_true hb, h]
      exact List.mem_cons_self ..
    | false => rw [hb] at h; exact List.mem_cons_of_mem _ (ih h)
theorem lookG_of_mem {l : List (Nat × Src)} (hu : (l.map Prod.fst).Nodup) {t : Nat} {s : Src} (h : (t, s) ∈ l) : lookG l t = some s := by
  induction l with
  | nil => cases h
  | cons x l ih =>
    obtain ⟨u, q⟩ := x
    simp only [List.map_cons, List.nodup_cons] at hu
    unfold lookG
    rcases List.mem_cons.1 h with h | h
    · simp only [Prod.mk.injEq] at h
      obtain ⟨rfl, rfl⟩ := h
      have : Nat.beq t t = true := by rw [Nat.beq_eq]
      rw [this]; rfl
    · have hne : Nat.beq u t = false := by
        cases hb : Nat.beq u t with
        | false => rfl
        | true =>
          exact absurd (List.mem_map.2 ⟨(t, s), h, (Nat.eq_of_beq_eq_true hb).symm⟩) hu.1
      rw [hne]
      exact ih hu.2 h
theorem forget_mem {t : Nat} {q : Option Pth} {l : List (Nat × Src)} {u : Nat} {s : Src} (h : (u, s) ∈ forget t q l) : (u, s) ∈ l ∧ t ≠ u ∧ ∀ p, q = some p → isSlot p s = false := by
  unfold forget at h
  rw [List.mem_filter] at h
  obtain ⟨h1, h2⟩ := h
  simp only [Bool.and_eq_true, Bool.not_eq_true'] at h2
  refine ⟨h1, fun h => ?_, fun p hp => ?_⟩
  · subst h
    have : Nat.beq t t = true := by rw [Nat.beq_eq]
    rw [this] at h2; cases h2.1
  · subst hp
    simpa using h2.2
theorem forget_sub {t : Nat} {q : Option Pth} {l : List (Nat × Src)} : ((forget t q l).map Prod.fst).Sublist (l.map Prod.fst) := (List.filter_sublist ..).map _
theorem forget_not {t : Nat} {q : Option Pth} {l : List (Nat × Src)} : t ∉ (forget t q l).map Prod.fst := by
  intro h
  obtain ⟨⟨u, s⟩, h1, rfl⟩ := List.mem_map.1 h
  exact (forget_mem h1).2.1 rfl

theorem CtxI.forget (h : CtxI G) (t : Nat) (q : Option Pth) (m : Nat) : CtxI ⟨forget t q G.g, m⟩ :=
  ⟨h.uniq.sublist forget_sub, fun u i hm => h.nol u i (forget_mem hm).1⟩
theorem CtxI.cons (h : CtxI G) (t : Nat) (s : Src) (hs : ∀ i, s ≠ .cp (.l i)) (m : Nat) : CtxI ⟨(t, s) :: Ex.forget t none G.g, m⟩ := by
  refine ⟨?_, fun u i hm => ?_⟩
  · simp only [List.map_cons, List.nodup_cons]
    exact ⟨forget_not, h.uniq.sublist forget_sub⟩
  · rcases List.mem_cons.1 hm with hm | hm
    · simp only [Prod.mk.injEq] at hm
      exact hs i hm.2.symm
    · exact h.nol u i (forget_mem hm).1

theorem ctx_get {tm : Array Value} (h : CtxOk ρ ω G L e tm) (hi : CtxI G) {t : Nat} {s : Src} (hm : (t, s) ∈ G.g) : VR ρ ω ((s.opd G.m).ev L e) (tm.getD t undef) := h.ok t s (lookG_of_mem hi.uniq hm)

/-- a place is written -/
theorem CtxOk.slot {tm : Array Value} (hi : CtxI G) (h : CtxOk ρ ω G L e tm) (t : Nat) (p : Pth) (x : AVal) (v : Value) :
    CtxOk ρ ω ⟨forget t (some p) G.g, G.m⟩ L (e.put .bad x p) (tm.setIfInBounds t v) := by
  refine ⟨h.len, fun u n hl => ?_, fun u s hl => ?_⟩ <;> simp only at hl
  · exact h.lev u n (lookG_of_mem hi.uniq (forget_mem (lookG_mem hl)).1)
  · obtain ⟨h1, h2, h3⟩ := forget_mem (lookG_mem hl)
    have h3 := h3 p rfl
    have h4 := ctx_get h hi h1
    rw [getD_set_ne' h2]
    have : ((s.opd G.m).ev L (e.put .bad x p)) = (s.opd G.m).ev L e := by
      cases s with
      | lev n => rfl
      | cp c => cases c with
        | l i => rfl
        | k v => rfl
        | t q =>
          show (e.put .bad x p).get .bad q = e.get .bad q
          refine get_put_ne _ _ (fun hpq => ?_) _
          subst hpq
          simp only [isSlot, pthEq_iff.2] at h3
          cases h3
    rw [this]; exact h4
theorem sub_succ_ix {m n : Nat} (h : n < m) : ixN (m - n) = .s (ixN (m - 1 - n)) := by
  rw [show m - n = (m - 1 - n) + 1 by omega]; rfl
/-- a value is put on the list -/
theorem CtxOk.push {tm : Array Value} (hi : CtxI G) (h : CtxOk ρ ω G L e tm) {t : Nat} (ht : t < tm.size) {x : AVal} {v : Value} (hv : VR ρ ω x v) :
    CtxOk ρ ω ⟨(t, .lev G.m) :: forget t none G.g, Nat.succ G.m⟩ (x :: L) e (tm.setIfInBounds t v) := by
  have hI := hi.cons t (.lev G.m) (by simp) (Nat.succ G.m)
  refine ⟨by simp [h.len], fun u n hl => ?_, fun u s hl => ?_⟩
  · rcases List.mem_cons.1 (lookG_mem hl) with hm | hm
    · simp only [Prod.mk.injEq, Src.lev.injEq] at hm
      rw [hm.2]; exact Nat.lt_succ_self _
    · exact Nat.lt_succ_of_lt (h.lev u n (lookG_of_mem hi.uniq (forget_mem hm).1))
  · rcases List.mem_cons.1 (lookG_mem hl) with hm | hm
    · simp only [Prod.mk.injEq] at hm
      obtain ⟨rfl, rfl⟩ := hm
      rw [getD_set_same ht]
      show VR ρ ω (getL (ixN (Nat.succ G.m - 1 - G.m)) (x :: L)) v
      rw [show Nat.succ G.m - 1 - G.m = 0 by omega]
      exact hv
    · obtain ⟨h1, h2, _⟩ := forget_mem hm
      rw [getD_set_ne' h2]
      have h4 := ctx_get h hi h1
      cases s with
      | lev n =>
        have hn := h.lev u n (lookG_of_mem hi.uniq h1)
        show VR ρ ω (getL (ixN (Nat.succ G.m - 1 - n)) (x :: L)) _
        rw [show Nat.succ G.m - 1 - n = G.m - n by omega, sub_succ_ix hn]
        exact h4
      | cp c => cases c with
        | l i => exact (hi.nol u i h1).elim
        | k v => exact h4
        | t q => exact h4
/-- a copy: nothing is carried out -/
theorem CtxOk.copy {tm : Array Value} (hi : CtxI G) (h : CtxOk ρ ω G L e tm) {t : Nat} (ht : t < tm.size) {s : Src} (hl : ∀ n, s = .lev n → n < G.m) {v : Value} (hv : VR ρ ω ((s.opd G.m).ev L e) v) :
    CtxOk ρ ω ⟨(t, s) :: forget t none G.g, G.m⟩ L e (tm.setIfInBounds t v) := by
  refine ⟨h.len, fun u n hl' => ?_, fun u s' hl' => ?_⟩
  · rcases List.mem_cons.1 (lookG_mem hl') with hm | hm
    · simp only [Prod.mk.injEq] at hm
      exact hl n hm.2.symm
    · exact h.lev u n (lookG_of_mem hi.uniq (forget_mem hm).1)
  · rcases List.mem_cons.1 (lookG_mem hl') with hm | hm
    · simp only [Prod.mk.injEq] at hm
      obtain ⟨rfl, rfl⟩ := hm
      rw [getD_set_same ht]
      exact hv
    · obtain ⟨h1, h2, _⟩ := forget_mem hm
      rw [getD_set_ne' h2]
      exact ctx_get h hi h1

/-- what is known at a moment of a region -/
structure RegOk (ρ : Pth → Option BI) (ω : Nat → Value) (N : Nat) (S : List (Nat × Pth)) (G : Ctx) (L : List AVal) (e : T8 AVal) (a : Act) : Prop where
  env : EnvOk ρ ω S e a.tmps
  ctx : CtxOk ρ ω G L e a.tmps
  ctxI : CtxI G
  size : a.tmps.size = N

theorem RegOk.mono {ρ' : Pth → Option BI} (hs : Sub ρ ρ') (h : RegOk ρ ω N S G L e a) : RegOk ρ' ω N S G L e a := ⟨h.env.mono hs, h.ctx.mono hs, h.ctxI, h.size⟩

theorem put_size (a : Act) (dst : Option Tmp) (v : Value) : (a.put dst v).tmps.size = a.tmps.size := by
  cases dst <;> simp [Act.put]
theorem put_defers (a : Act) (dst : Option Tmp) (v : Value) : (a.put dst v).defers = a.defers := by
  cases dst <;> rfl

theorem RegOk.put (hs : slotsOk S = true) (h : RegOk ρ ω N S G L e a) {dst : Option Tmp} {d : Dst} (hd : cDst N S G dst = some (d, G')) {x : AVal} {v : Value} (hv : VR ρ ω x v) :
    RegOk ρ ω N S G' (setL L d x) (setE e d x) (a.put dst v) := by
  have hsz := h.size
  cases dst with
  | none =>
    simp only [cDst, Option.some.injEq, Prod.mk.injEq] at hd
    obtain ⟨rfl, rfl⟩ := hd
    exact h
  | some t =>
    simp only [cDst] at hd
    cases hb : Nat.blt t N with
    | false => rw [hb] at hd; cases hd
    | true =>
      rw [hb] at hd
      simp only [cond] at hd
      have ht : t < a.tmps.size := by rw [hsz]; exact Nat.le_of_ble_eq_true hb
      cases hl : look S t with
      | some p =>
        rw [hl] at hd
        simp only [Option.some.injEq, Prod.mk.injEq] at hd
        obtain ⟨rfl, rfl⟩ := hd
        exact ⟨h.env.slot hs hl ht hv, h.ctx.slot h.ctxI t p x v, h.ctxI.forget t _ _, by rw [put_size]; exact hsz⟩
      | none =>
        rw [hl] at hd
        simp only [Option.some.injEq, Prod.mk.injEq] at hd
        obtain ⟨rfl, rfl⟩ := hd
        exact ⟨h.env.free hl v, h.ctx.push h.ctxI ht hv, h.ctxI.cons t _ (by simp) _, by rw [put_size]; exact hsz⟩

theorem srcOf_sound (hg : GlobOk P ρ) (h : RegOk ρ ω N S G L e a) {x : Operand} {s : Src} (hx : srcOf P N S G x = some s) :
    VR ρ ω ((s.opd G.m).ev L e) (a.eval x) ∧ (∀ n, s = .lev n → n < G.m) ∧ ∀ i, s ≠ .cp (.l i) := by
  cases x with
  | tmp t =>
    simp only [srcOf] at hx
    cases hb : Nat.blt t N with
    | false => rw [hb] at hx; cases hx
    | true =>
      rw [hb] at hx
      simp only [cond] at hx
      cases hl : lookG G.g t with
      | some q =>
        rw [hl] at hx
        simp only [Option.some.injEq] at hx
        subst hx
        exact ⟨h.ctx.ok t q hl, fun n hn => h.ctx.lev t n (by rw [hl, hn]), fun i hi => h.ctxI.nol t i (by rw [← hi]; exact lookG_mem hl)⟩
      | none =>
        rw [hl] at hx
        simp only [Option.map_eq_some_iff] at hx
        obtain ⟨p, hp, rfl⟩ := hx
        exact ⟨h.env t p hp, fun n hn => (by cases hn), fun i hi => (by cases hi)⟩
  | const v =>
    simp only [srcOf, Option.map_eq_some_iff] at hx
    obtain ⟨y, hy, rfl⟩ := hx
    exact ⟨ofValue_sound hy, fun n hn => (by cases hn), fun i hi => (by cases hi)⟩
  | global g =>
    simp only [srcOf] at hx
    cases hb : Nat.blt g P.globals.size with
    | false => rw [hb] at hx; cases hx
    | true =>
      rw [hb] at hx
      simp only [cond, Option.some.injEq] at hx
      subst hx
      obtain ⟨i, hi, h1, h2⟩ := hg g (Nat.le_of_ble_eq_true hb)
      have := VR.ptr (ρ := ρ) (ω := ω) (key g) 0 i hi
      rw [h1, h2] at this
      exact ⟨this, fun n hn => (by cases hn), fun i hi => (by cases hi)⟩
  | func f =>
    simp only [srcOf, Option.some.injEq] at hx
    subst hx
    exact ⟨.fnv f [] [] .nil, fun n hn => (by cases hn), fun i hi => (by cases hi)⟩

theorem RegOk.copy (hg : GlobOk P ρ) (h : RegOk ρ ω N S G L e a) {t : Nat} (ht : Nat.blt t N = true) (hl : look S t = none) {x : Operand} {s : Src} (hx : srcOf P N S G x = some s) :
    RegOk ρ ω N S ⟨(t, s) :: forget t none G.g, G.m⟩ L e (a.put (some t) (a.eval x)) := by
  obtain ⟨h1, h2, h3⟩ := srcOf_sound hg h hx
  have ht' : t < a.tmps.size := by rw [h.size]; exact Nat.le_of_ble_eq_true ht
  exact ⟨h.env.free hl _, h.ctx.copy h.ctxI ht' h2 h1, h.ctxI.cons t s h3 _, by rw [put_size]; exact h.size⟩

theorem ofL_toL (l : List CO) : (Ops.ofL l).toL = l := by
  induction l with
  | nil => rfl
  | cons o l ih =>
    unfold Ops.ofL
    split <;> first
      | rfl
      | (simp_all [Ops.toL])
end Go.Ex

namespace Go.Ex
open Go
variable {P : Program} {ρ : Pth → Option BI} {ω : Nat → Value} {H : AH} {w : World}
variable {a : Act} {N : Nat} {S : List (Nat × Pth)} {A : List Nat} {G G' : Ctx} {L : List AVal} {e : T8 AVal}

/-- the widest fence, in a round or not -/
def FF (ro : Option Nat) : Fence := { Fence.wide with round := ro }

theorem FF_calls {ro : Option Nat} {n : Nat} {f : FuncId} {args : Array Value} {R : Ending → World → Prop} (h : CallsIn Fence.wide n P f args w R) : CallsIn (FF ro) n P f args w R := h
theorem FF_round {ro : Option Nat} {n l : Nat} {f : FuncId} {tmps : Array Value} {as bd : Code} {R : Ending → World → Prop} (h : RoundIn Fence.wide n P l f tmps as bd w R) : RoundIn (FF ro) n P l f tmps as bd w R := h

/-- a function's value can be called, and what comes of it -/
inductive CallOk (P : Program) (w : World) (vals : List Value) (R : Value → World → Prop) : Value → Prop where
  | fn (f : Nat) (caps : List Value) (fn : Func) (hf : P.funcs[f]? = some fn) (hn : (fn.name == "runtime.NumGoroutine") = false) (hb : fn.body.isNone = false)
      (h : CallsIn Fence.wide 0 P f (vals ++ caps).toArray w fun | .returned v, w' => R v w' | _, _ => False) : CallOk P w vals R (.func (.func f) #[] caps.toArray)
  | yield (l : Nat) (f : FuncId) (tmps : Array Value) (as bd : Code) (hy : (Instr.yield l vals.toArray).run P w = .ok (.round l f tmps as bd) w)
      (h : RoundIn Fence.wide 0 P l f tmps as bd w fun | .returned v, w' => R v w' | _, _ => False) : CallOk P w vals R (.func (.yield l) #[] #[])

theorem CallOk.mono {vals : List Value} {R R' : Value → World → Prop} {g : Value} (h : CallOk P w vals R g) (hr : ∀ v w', R v w' → R' v w') : CallOk P w vals R' g := by
  cases h with
  | fn f caps fn hf hn hb h => exact .fn f caps fn hf hn hb (h.mono fun e w' he => by cases e <;> first | exact hr _ _ he | exact he)
  | yield l f tmps as bd hy h => exact .yield l f tmps as bd hy (h.mono fun e w' he => by cases e <;> first | exact hr _ _ he | exact he)

/-- a caller does what it says -/
def CallerOk (P : Program) (ω : Nat → Value) (call : Caller) : Prop :=
  ∀ {g : AVal} {args : List AVal} {H : AH} {v : AVal} {H' : AH} {ρ : Pth → Option BI} {w : World} {g' : Value} {vals : List Value}, call g args H = .ok v H' → HR P ρ ω H w → GlobOk P ρ → VR ρ ω g g' → All2 (VR ρ ω) args vals →
    CallOk P w vals (fun v' w' => ∃ ρ', VR ρ' ω v v' ∧ Step P ρ ω H w ρ' H' w') g'

theorem call_run (P : Program) (w : World) {g : Value} {vals : List Value} {R : Value → World → Prop} (h : CallOk P w vals R g) {ev : Operand → Value} {c : Call} {x : Operand} (hc : c.callee = .value x) (hx : ev x = g) (hv : (c.args.map ev) = vals.toArray) (type : TypeId) :
    ∃ nx, (do let d ← resolve ev c type; invoke d.target d.args : Sem Next).run P w = .ok nx w ∧
      ((∃ f as, nx = .enter f as ∧ CallsIn Fence.wide 0 P f as w fun | .returned v, w' => R v w' | _, _ => False) ∨
       (∃ l f tmps as bd, nx = .round l f tmps as bd ∧ RoundIn Fence.wide 0 P l f tmps as bd w fun | .returned v, w' => R v w' | _, _ => False)) := by
  subst hx
  simp only [resolve, hc, hv]
  generalize ev x = g at h ⊢
  cases h with
  | fn f caps fn hf hn hb h =>
    refine ⟨.enter f (vals ++ caps).toArray, ?_, .inl ⟨_, _, rfl, h⟩⟩
    simp only [Deferred.ofValue, invoke, callFunc, Sem.run_bind, Sem.run_pure, Result.andThen_ok, run_program, hf, hn, hb, Bool.false_eq_true, if_false, List.append_toArray, List.nil_append]
  | yield l f tmps as bd hy h =>
    refine ⟨.round l f tmps as bd, ?_, .inr ⟨_, _, _, _, _, rfl, h⟩⟩
    simp [Deferred.ofValue, invoke, hy]

/-- one operation within a region -/
theorem op_wp (hω : ∀ i, (ω i).oneCell' = true) {call : Caller} (hcall : CallerOk P ω call) (hr : HR P ρ ω H w) (hg : GlobOk P ρ) (he : EnvOk ρ ω S e a.tmps) (hc : CtxOk ρ ω G L e a.tmps)
    {o : Oper} {cop : COp} (hcop : cOp P N S G o.op = some cop) {v : AVal} {H' : AH} (hdo : doOp call cop L e H = .ok v H') {ro : Option Nat} {next : Act → World → Prop} {Q : Exit → Act → World → Prop}
    (hnext : ∀ ρ' v' w', VR ρ' ω v v' → Step P ρ ω H w ρ' H' w' → next (a.put o.dst v') w') : o.wpIn (FF ro) 0 P a w next Q := by
  refine ⟨fun _ _ => trivial, ?_⟩
  have hnd : ∀ c, o.op ≠ .defer c := by
    intro c h
    rw [h] at hcop
    simp only [cOp] at hcop
    cases hcop
  rw [Oper.semAt_eq _ _ _ hnd]
  have fin : OpRes P ρ ω H w v H' (execOp a.eval o) → o.uponIn (FF ro) 0 P a next Q ((execOp a.eval o).run P w) := by
    rintro ⟨ρ', r, w', h1, h2, h3⟩
    rw [h1]
    rcases h2 with ⟨v', rfl, h4⟩ | ⟨rfl, rfl⟩
    · exact hnext ρ' v' w' h4 h3
    · exact hnext ρ' undef w' (.tup [] [] .nil) h3
  cases hop : o.op with
  | call c =>
    cases hcal : c.callee with
    | builtin b => exact fin (builtin_sound hr hg he hc hop hcal hcop hdo)
    | invoke r name => rw [hop] at hcop; simp only [cOp, cCall, hcal] at hcop; cases hcop
    | value x =>
      have key : CallOk P w (c.args.toList.map a.eval) (fun v' w' => ∃ ρ', VR ρ' ω v v' ∧ Step P ρ ω H w ρ' H' w') (a.eval x) := by
        rw [hop] at hcop
        simp only [cOp, cCall, hcal] at hcop
        have gen : ∀ {gv}, (cOpd P N S G x).bind (fun g => (cOpds P N S G c.args.toList).map (.callv g)) = some gv → doOp call gv L e H = .ok v H' → CallOk P w (c.args.toList.map a.eval) (fun v' w' => ∃ ρ', VR ρ' ω v v' ∧ Step P ρ ω H w ρ' H' w') (a.eval x) := by
          intro gv hgv hd2
          simp only [Option.bind_eq_some_iff, Option.map_eq_some_iff] at hgv
          obtain ⟨g, h0, cs, h1, rfl⟩ := hgv
          exact hcall hd2 hr hg (cOpd_sound hg he hc h0) (cOpds_sound hg he hc h1)
        cases x with
        | func f =>
          simp only [Option.map_eq_some_iff] at hcop
          obtain ⟨cs, h1, rfl⟩ := hcop
          exact hcall hdo hr hg (.fnv f [] [] .nil) (cOpds_sound hg he hc h1)
        | tmp t => exact gen hcop hdo
        | const v => exact gen hcop hdo
        | global g => exact gen hcop hdo
      have hrun : execOp a.eval o = (do let d ← resolve a.eval c o.type; invoke d.target d.args : Sem Next) := by
        simp only [execOp, hop]
      rw [hrun]
      obtain ⟨nx, h1, h2⟩ := call_run P w key hcal rfl (map_toArray_of rfl _) o.type
      rw [h1]
      rcases h2 with ⟨f, as, rfl, h3⟩ | ⟨l, f, tmps, as, bd, rfl, h3⟩
      · rw [Oper.uponIn_enter]
        refine ⟨fun h => (by cases h), FF_calls (h3.mono fun e w' hh => ?_)⟩
        cases e with
        | returned v' => obtain ⟨ρ', h4, h5⟩ := hh; exact hnext ρ' v' w' h4 h5
        | panicked c => exact hh.elim
        | outgrown => exact hh.elim
      · rw [Oper.uponIn_round]
        refine ⟨fun h => (by cases h), FF_round (h3.mono fun e w' hh => ?_)⟩
        cases e with
        | returned v' => obtain ⟨ρ', h4, h5⟩ := hh; exact hnext ρ' v' w' h4 h5
        | panicked c => exact hh.elim
        | outgrown => exact hh.elim
  | _ => exact fin (op_sound hω hr hg he hc (by rw [hop]; rfl) hcop hdo)

/-! ### guards -/
theorem some_ne {b c : Bool} (h : boolEq c b = false) : (some c == some b) = false := by revert b c; decide
theorem guard_sound (hg : GlobOk P ρ) (he : EnvOk ρ ω S e a.tmps) (hc : CtxOk ρ ω G L e a.tmps) {ops : Array Oper} {o : Oper} {g : Option (COpd × Bool)} (h : cGuard P N S G ops o.guard = some g) :
    (wants L e g = .go → Region.wanted o (yielded ops a.tmps) = true) ∧ (wants L e g = .skip → Region.wanted o (yielded ops a.tmps) = false) := by
  cases hgd : o.guard with
  | none =>
    rw [hgd] at h
    simp only [cGuard, Option.some.injEq] at h
    subst h
    exact ⟨fun _ => by simp [Region.wanted, hgd], fun h => by cases h⟩
  | some jb =>
    obtain ⟨j, b⟩ := jb
    rw [hgd] at h
    simp only [cGuard] at h
    split at h
    · rename_i t ht
      simp only [Option.map_eq_some_iff] at h
      obtain ⟨x, hx, rfl⟩ := h
      have hv := cOpd_sound hg he hc hx
      have hev : a.eval (.tmp t) = a.tmps.getD t undef := rfl
      have hy : yielded ops a.tmps j = match a.tmps.getD t undef with | .bool b => some b | _ => none := by
        unfold yielded
        rw [ht, Option.bind_some, Array.getD_eq_getD_getElem?]
        cases a.tmps[t]? with
        | none => rfl
        | some v => cases v <;> rfl
      rw [hev] at hv
      unfold wants Region.wanted
      simp only [hgd, hy]
      generalize a.tmps.getD t undef = u at hv ⊢
      generalize x.ev L e = xv at hv ⊢
      cases hv with
      | bool c =>
        simp only
        have := boolEq_iff c b
        cases hb : boolEq c b with
        | true =>
          rw [hb] at this
          simp only [cond]
          refine ⟨fun _ => ?_, fun h => by cases h⟩
          have := eq_of_beq this.symm
          subst this
          simp
        | false =>
          rw [hb] at this
          simp only [cond]
          exact ⟨fun h => (by cases h), fun _ => some_ne hb⟩
      | tup l vs hl =>
        cases l with
        | nil =>
          simp only
          exact ⟨fun h => (by cases h), fun _ => rfl⟩
        | cons x l => exact ⟨fun h => (by cases h), fun h => (by cases h)⟩
      | _ => exact ⟨fun h => (by cases h), fun h => (by cases h)⟩
    · cases h

/-- what is known while a function runs, aside from the temporaries: the marks for rounds' deferred calls among its own -/
structure DefOk (base : Nat) (ρ : Pth → Option BI) (H : AH) (w : World) (ds : List Deferred) : Prop where
  ok : ∀ d ∈ ds, ∃ r, d = { target := .collected r, args := #[] } ∧ base ≤ r ∧ r < w.heap.size ∧ w.heap[r]? = some (.deferred (some [])) ∧ ¬ Img ρ H r
  nodup : ds.Nodup

theorem DefOk.step {base : Nat} {ρ' : Pth → Option BI} {H' : AH} {w' : World} {ds : List Deferred} (h : DefOk base ρ H w ds) (hs : Step P ρ ω H w ρ' H' w') : DefOk base ρ' H' w' ds := by
  refine ⟨fun d hd => ?_, h.nodup⟩
  obtain ⟨r, h1, h2, h3, h4, h5⟩ := h.ok d hd
  exact ⟨r, h1, h2, Nat.lt_of_lt_of_le h3 hs.size, (hs.keep r h3 fun hi => h5 hi.img).trans h4, fun hi => h5 (hs.img r h3 hi)⟩

/-- a region in the order of the text -/
theorem opers_sound (hω : ∀ i, (ω i).oneCell' = true) {call : Caller} (hcall : CallerOk P ω call) (hS : slotsOk S = true) {ops : Array Oper} {ro : Option Nat} {base : Nat} {ds : List Deferred} {Q : Exit → Act → World → Prop}
    (l : List Oper) : ∀ (i : Nat) (_ : ops.toList.drop i = l) (G : Ctx) {r : List CO} {G' : Ctx} (_ : cOpers P N S A ops G l = some (r, G')) {ρ : Pth → Option BI} {H : AH} {w : World} {L : List AVal} {e : T8 AVal} {a : Act}
      (_ : HR P ρ ω H w) (_ : GlobOk P ρ) (_ : RegOk ρ ω N S G L e a) (_ : a.defers = ds) (_ : DefOk base ρ H w ds) {L' : List AVal} {e' : T8 AVal} {H' : AH} (_ : runOps call r L e H = .ok L' e' H')
      (_ : ∀ ρ' a' w', Step P ρ ω H w ρ' H' w' → RegOk ρ' ω N S G' L' e' a' → a'.defers = ds → DefOk base ρ' H' w' ds → GlobOk P ρ' → Q .normal a' w'),
      wpOpsIn (FF ro) 0 P ops Q (List.range' i l.length) a w := by
  induction l with
  | nil =>
    intro i hl G r G' hcomp ρ H w L e a hr hg hreg hds hdef L' e' H' hrun hQ
    simp only [cOpers, Option.some.injEq, Prod.mk.injEq] at hcomp
    obtain ⟨rfl, rfl⟩ := hcomp
    simp only [runOps, OutL.ok.injEq] at hrun
    obtain ⟨rfl, rfl, rfl⟩ := hrun
    exact hQ ρ a w (.refl hr) hreg hds hdef hg
  | cons o l ih =>
    intro i hl G r G' hcomp ρ H w L e a hr hg hreg hds hdef L' e' H' hrun hQ
    simp only [cOpers, Option.bind_eq_some_iff] at hcomp
    obtain ⟨⟨ao, G1⟩, h1, ⟨r1, G2⟩, h2, h3⟩ := hcomp
    simp only [Option.some.injEq, Prod.mk.injEq] at h3
    obtain ⟨rfl, rfl⟩ := h3
    have ho : ops[i]? = some o := by
      rw [← Array.getElem?_toList, ← List.head?_drop, hl]; rfl
    have hl' : ops.toList.drop (i + 1) = l := by
      rw [← List.drop_drop, hl]; rfl
    rw [List.length_cons, List.range'_succ]
    simp only [wpOpsIn, ho]
    simp only [cOper, Option.bind_eq_some_iff] at h1
    obtain ⟨g, hgd, ⟨d, Gd⟩, hd, h1⟩ := h1
    obtain ⟨hgo, hskip⟩ := guard_sound hg hreg.env hreg.ctx hgd
    have main : ao = some ⟨d, (cOp P N S G o.op).getD .bad, g⟩ → G1 = Gd → if Region.wanted o (yielded ops a.tmps) = true then o.wpIn (FF ro) 0 P a w (wpOpsIn (FF ro) 0 P ops Q (List.range' (i + 1) l.length)) Q
        else (∀ f, o.about P w a.eval = some f → (FF ro).fn f) ∧ wpOpsIn (FF ro) 0 P ops Q (List.range' (i + 1) l.length) (a.put o.dst undef) w := by
      rintro rfl rfl
      simp only [consO, runOps] at hrun
      cases hw : wants L e g with
      | no => rw [hw] at hrun; cases hrun
      | skip =>
        rw [hw] at hrun
        rw [if_neg (by rw [hskip hw]; simp)]
        refine ⟨fun _ _ => trivial, ?_⟩
        have hv : VR ρ ω undefV undef := .tup [] [] .nil
        exact ih (i + 1) hl' _ h2 hr hg (hreg.put hS hd hv) (by rw [put_defers]; exact hds) hdef hrun hQ
      | go =>
        rw [hw] at hrun
        rw [if_pos (hgo hw)]
        cases hco : cOp P N S G o.op with
        | none =>
          rw [hco] at hrun
          cases hrun
        | some cop =>
          rw [hco] at hrun
          simp only [Option.getD_some] at hrun
          cases hdo : doOp call cop L e H with
          | no => rw [hdo] at hrun; cases hrun
          | ok v H1 =>
            rw [hdo] at hrun
            refine op_wp hω hcall hr hg hreg.env hreg.ctx hco hdo fun ρ' v' w' hv hst => ?_
            have hg' : GlobOk P ρ' := fun k hk => let ⟨b, x, y⟩ := hg k hk; ⟨b, hst.sub _ _ x, y⟩
            refine ih (i + 1) hl' _ h2 hst.hr hg' ((hreg.mono hst.sub).put hS hd hv) (by rw [put_defers]; exact hds) (hdef.step hst) hrun fun ρ2 a2 w2 hs2 => ?_
            exact hQ ρ2 a2 w2 (hst.trans hs2)
    split at h1
    · rename_i t x hpu hdst hcp
      have hpu : d = .push := hpu
      subst hpu
      cases hin : isIn t A with
      | true =>
        rw [hin] at h1
        simp only [cond, Option.some.injEq, Prod.mk.injEq] at h1
        exact main h1.1.symm h1.2.symm
      | false =>
        rw [hin] at h1
        simp only [cond, Option.some.injEq, Prod.mk.injEq] at h1
        obtain ⟨rfl, rfl⟩ := h1
        have hpush : Nat.blt t N = true ∧ look S t = none := by
          rw [hdst] at hd
          simp only [cDst] at hd
          cases hb : Nat.blt t N with
          | false => rw [hb] at hd; cases hd
          | true =>
            rw [hb] at hd
            simp only [cond] at hd
            cases hlk : look S t with
            | some p => rw [hlk] at hd; simp at hd
            | none => exact ⟨rfl, rfl⟩
        simp only [consO] at hrun
        have hcopy : ∀ y, srcOf P N S G y = some x → o.guard = none → (o.op = .move y ∨ o.op = .assign y) →
            if Region.wanted o (yielded ops a.tmps) = true then o.wpIn (FF ro) 0 P a w (wpOpsIn (FF ro) 0 P ops Q (List.range' (i + 1) l.length)) Q
            else (∀ f, o.about P w a.eval = some f → (FF ro).fn f) ∧ wpOpsIn (FF ro) 0 P ops Q (List.range' (i + 1) l.length) (a.put o.dst undef) w := by
          intro y hy hgn hoy
          rw [if_pos (by simp [Region.wanted, hgn])]
          refine ⟨fun _ _ => trivial, ?_⟩
          rw [Oper.semAt_eq _ _ _ (fun c h => by rcases hoy with h' | h' <;> rw [h'] at h <;> cases h)]
          have hrun2 : (execOp a.eval o).run P w = .ok (.value (a.eval y)) w := by
            rcases hoy with h' | h' <;> simp [execOp, h']
          rw [hrun2, Oper.uponIn_value, hdst]
          exact ih (i + 1) hl' _ h2 hr hg (hreg.copy hg hpush.1 hpush.2 hy) (by rw [put_defers]; exact hds) hdef hrun hQ
        unfold isCopy at hcp
        split at hcp
        · rename_i y hgn hop; exact hcopy y hcp hgn (.inl hop)
        · rename_i y hgn hop; exact hcopy y hcp hgn (.inr hop)
        · cases hcp
    · simp only [Option.some.injEq, Prod.mk.injEq] at h1
      exact main h1.1.symm h1.2.symm
end Go.Ex

namespace Go.Ex
open Go
variable {P : Program} {ρ : Pth → Option BI} {ω : Nat → Value} {H : AH} {w : World}
variable {a : Act} {N : Nat} {S : List (Nat × Pth)} {A : List Nat} {G G' : Ctx} {L : List AVal} {e : T8 AVal}

/-! ### a function's parameters -/
theorem app_eq (l r : List AVal) : app l r = l ++ r := by
  induction l with
  | nil => rfl
  | cons a l ih => show a :: app l r = _; rw [ih]; rfl

theorem cParams_length (S : List (Nat × Pth)) (i n : Nat) : (cParams S i n).length = n := by
  induction n generalizing i with
  | zero => rfl
  | succ n ih => simp only [cParams, List.length_cons, ih]

theorem mkEnv_length {ps : List (Option Pth)} {vs : List AVal} {e e' : T8 AVal} (h : mkEnv ps vs e = some e') : ps.length = vs.length := by
  induction ps generalizing vs e with
  | nil => cases vs with
    | nil => rfl
    | cons v vs => cases h
  | cons p ps ih => cases vs with
    | nil => cases p <;> cases h
    | cons v vs =>
      cases p with
      | none => simp only [mkEnv] at h; simp only [List.length_cons, ih h]
      | some p => simp only [mkEnv] at h; simp only [List.length_cons, ih h]

theorem mkEnv_params (hS : slotsOk S = true) {vs0 : List Value} {n : Nat} : ∀ {i : Nat} {vs : List AVal} {e e' : T8 AVal}, All2 (VR ρ ω) vs (vs0.drop i) → mkEnv (cParams S i n) vs e = some e' →
    (∀ t p, look S t = some p → (t < i → VR ρ ω (e.get .bad p) (vs0.getD t undef)) ∧ (i ≤ t → e.get .bad p = .bad)) →
    ∀ t p, look S t = some p → (t < i + n → VR ρ ω (e'.get .bad p) (vs0.getD t undef)) ∧ (i + n ≤ t → e'.get .bad p = .bad) := by
  induction n with
  | zero =>
    intro i vs e e' hvs h hi
    cases vs with
    | nil => simp only [cParams, mkEnv, Option.some.injEq] at h; subst h; exact hi
    | cons v vs => cases h
  | succ n ih =>
    intro i vs e e' hvs h hi
    cases vs with
    | nil => simp only [cParams] at h; cases hl : look S i <;> rw [hl] at h <;> cases h
    | cons v vs =>
      have hd : ∃ v', vs0[i]? = some v' ∧ VR ρ ω v v' ∧ All2 (VR ρ ω) vs (vs0.drop (i + 1)) := by
        generalize hq : vs0.drop i = q at hvs
        cases hvs with
        | cons hv ht =>
          rename_i b r
          refine ⟨b, ?_, hv, ?_⟩
          · rw [← List.head?_drop, hq]; rfl
          · rw [← List.drop_drop, hq]; exact ht
      obtain ⟨v', hv1, hv2, hvs'⟩ := hd
      simp only [cParams] at h
      have hgd : vs0.getD i undef = v' := by rw [List.getD_eq_getElem?_getD, hv1]; rfl
      have hrest : ∀ e1, mkEnv (cParams S (i + 1) n) vs e1 = some e' → (∀ t p, look S t = some p → (t < i + 1 → VR ρ ω (e1.get .bad p) (vs0.getD t undef)) ∧ (i + 1 ≤ t → e1.get .bad p = .bad)) →
          ∀ t p, look S t = some p → (t < i + (n + 1) → VR ρ ω (e'.get .bad p) (vs0.getD t undef)) ∧ (i + (n + 1) ≤ t → e'.get .bad p = .bad) := by
        intro e1 h1 h2 t p hp
        have := ih hvs' h1 h2 t p hp
        rw [show i + (n + 1) = i + 1 + n by omega]
        exact this
      cases hl : look S i with
      | none =>
        rw [hl] at h
        refine hrest e h fun t p hp => ?_
        have hne : t ≠ i := fun h => by subst h; rw [hl] at hp; cases hp
        exact ⟨fun h => (hi t p hp).1 (by omega), fun h => (hi t p hp).2 (by omega)⟩
      | some p0 =>
        rw [hl] at h
        refine hrest _ h fun t p hp => ?_
        by_cases ht : t = i
        · subst ht
          rw [hl] at hp
          simp only [Option.some.injEq] at hp
          subst hp
          rw [get_put_same, hgd]
          exact ⟨fun _ => hv2, fun h => absurd h (by omega)⟩
        · rw [get_put_ne _ _ (fun hpq => ht (by subst hpq; exact slots_inj hS hp hl))]
          exact ⟨fun h => (hi t p hp).1 (by omega), fun h => (hi t p hp).2 (by omega)⟩

/-- the environment with which a function begins -/
theorem enter_env (hS : slotsOk S = true) {n N : Nat} {vs : List AVal} {vals : List Value} (hv : All2 (VR ρ ω) vs vals) {e' : T8 AVal} (h : mkEnv (cParams S 0 n) vs .nil = some e') :
    EnvOk ρ ω S e' (vals.toArray ++ Array.replicate (N - vals.toArray.size) undef) := by
  have hlen := mkEnv_length h
  rw [cParams_length] at hlen
  have hlen2 := hv.length
  intro t p hp
  have := mkEnv_params (vs0 := vals) (i := 0) hS hv h (fun t p _ => ⟨fun h => absurd h (Nat.not_lt_zero _), fun _ => get_nil _ p⟩) t p hp
  by_cases ht : t < n
  · have h1 := this.1 (by omega)
    have : (vals.toArray ++ Array.replicate (N - vals.toArray.size) undef).getD t undef = vals.getD t undef := by
      rw [Array.getD_eq_getD_getElem?, List.getD_eq_getElem?_getD, Array.getElem?_append_left (by simp; omega), List.getElem?_toArray]
    rw [this]; exact h1
  · rw [this.2 (by omega)]
    exact .bad _

/-- a round's parameters -/
theorem mkEnv_round (hS : slotsOk S = true) : ∀ {ps : List Nat} {q : List Pth} {vs : List AVal} {vals : List Value} {e e' : T8 AVal} {tm : Array Value}, ps.mapM (look S) = some q → (∀ t ∈ ps, t < tm.size) →
    All2 (VR ρ ω) vs vals → mkEnv (q.map some) vs e = some e' → EnvOk ρ ω S e tm → EnvOk ρ ω S e' ((ps.zip vals).foldl (fun tmps (t, a) => tmps.setIfInBounds t a) tm) ∧ ((ps.zip vals).foldl (fun tmps (t, a) => tmps.setIfInBounds t a) tm).size = tm.size ∧ ps.length = vals.length := by
  intro ps
  induction ps with
  | nil =>
    intro q vs vals e e' tm hq _ hv h he
    simp only [List.mapM_nil, Option.pure_def, Option.some.injEq] at hq
    subst hq
    cases hv with
    | nil => simp only [List.map_nil, mkEnv, Option.some.injEq] at h; subst h; exact ⟨he, rfl, rfl⟩
    | cons _ _ => cases h
  | cons t ps ih =>
    intro q vs vals e e' tm hq hlt hv h he
    simp only [List.mapM_cons, Option.bind_eq_bind, Option.bind_eq_some_iff, Option.pure_def, Option.some.injEq] at hq
    obtain ⟨p, hp, q', hq', rfl⟩ := hq
    cases hv with
    | nil => cases h
    | cons hv hvs =>
      rename_i v v' vs vals
      simp only [List.map_cons, mkEnv] at h
      have h1 := he.slot hS hp (hlt t (by simp)) hv
      obtain ⟨h2, h3, h4⟩ := ih hq' (fun u hu => by simpa using hlt u (by simp [hu])) hvs h h1
      refine ⟨?_, ?_, ?_⟩
      · simpa using h2
      · simpa using h3
      · simp [h4]

/-! ### a function's results -/
theorem loadRes_sound (hr : HR P ρ ω H w) {t : TypeId} {agg : Bool} {sz : Nat} (hagg : tAgg P t = some agg) (hsz : tSize P t = some sz) {x v : AVal} {x' : Value} (hx : VR ρ ω x x')
    (h : loadV H agg sz x = v) (hv : v ≠ .bad) : ∃ v', (do loadVar t (← asAddr x') : Sem Value).run P w = .ok v' w ∧ VR ρ ω v v' := by
  obtain ⟨v', h1, h2⟩ := load_sound (P := P) (w := w) hr hagg hsz hx h hv
  refine ⟨v', ?_, h2⟩
  rw [← h1]
  cases hx with
  | ptr id off i hi => rfl
  | _ => exact absurd h.symm hv

def resVal (tm : Array Value) : ResultVar → Sem Value
  | .tmp t => pure (tm.getD t undef)
  | .cell a t => do loadVar t (← asAddr (tm.getD a undef))

theorem anyBad_cons {v : AVal} {l : List AVal} (h : anyBad (v :: l) = false) : v ≠ .bad ∧ anyBad l = false := by
  cases v <;> first | (cases h; done) | exact ⟨fun h => (by cases h), h⟩

theorem resList_sound (hr : HR P ρ ω H w) {tm : Array Value} (he : EnvOk ρ ω S e tm) {rs : List ResultVar} : ∀ {res : List (Pth × Option (Bool × Nat))}, cRes P N S rs = some res → anyBad (resultsV H e res) = false →
    ∃ vs, (rs.mapM (resVal tm)).run P w = .ok vs w ∧ All2 (VR ρ ω) (resultsV H e res) vs := by
  induction rs with
  | nil =>
    intro res h _
    simp only [cRes, Option.some.injEq] at h
    subst h
    exact ⟨[], rfl, .nil⟩
  | cons r rs ih =>
    intro res h hb
    cases r with
    | tmp t =>
      simp only [cRes] at h
      cases hlt : Nat.blt t N with
      | false => rw [hlt] at h; cases h
      | true =>
        rw [hlt] at h
        simp only [cond, Option.bind_eq_some_iff, Option.some.injEq] at h
        obtain ⟨p, hp, l, hl, rfl⟩ := h
        simp only [resultsV] at hb ⊢
        obtain ⟨h1, h2⟩ := anyBad_cons hb
        obtain ⟨vs, h3, h4⟩ := ih hl h2
        refine ⟨tm.getD t undef :: vs, ?_, .cons (he t p hp) h4⟩
        simp only [List.mapM_cons, resVal, Sem.run_bind, Sem.run_pure, Result.andThen_ok, h3]
    | cell c t =>
      simp only [cRes] at h
      cases hlt : Nat.blt c N with
      | false => rw [hlt] at h; cases h
      | true =>
        rw [hlt] at h
        simp only [cond, Option.bind_eq_some_iff, Option.some.injEq] at h
        obtain ⟨p, hp, g, hg, s, hs, l, hl, rfl⟩ := h
        simp only [resultsV] at hb ⊢
        obtain ⟨h1, h2⟩ := anyBad_cons hb
        obtain ⟨vs, h3, h4⟩ := ih hl h2
        obtain ⟨v', h5, h6⟩ := loadRes_sound (P := P) (w := w) hr hg hs (he c p hp) rfl h1
        refine ⟨v' :: vs, ?_, .cons h6 h4⟩
        rw [List.mapM_cons, Sem.run_bind]
        show Result.andThen (Sem.run P (do loadVar t (← asAddr (tm.getD c undef))) w) _ = _
        rw [h5, Result.andThen_ok, Sem.run_bind, h3, Result.andThen_ok, Sem.run_pure]

theorem tupOf_sound {l : List AVal} {vs : List Value} (h : All2 (VR ρ ω) l vs) : VR ρ ω (tupOf l) (if h : vs.toArray.size = 1 then vs.toArray[0] else .tuple vs.toArray) := by
  cases h with
  | nil => exact .tup [] [] .nil
  | cons hv ht =>
    cases ht with
    | nil => exact hv
    | cons hv2 ht2 =>
      rw [dif_neg (by simp)]
      exact .tup _ _ (.cons hv (.cons hv2 ht2))

theorem results_sound (hr : HR P ρ ω H w) {tm : Array Value} (he : EnvOk ρ ω S e tm) {fn : Func} {res : List (Pth × Option (Bool × Nat))} (hres : cRes P N S fn.results.toList = some res) {v : AVal} {H' : AH}
    (h : result H e res = .ok v H') : H' = H ∧ ∃ v', (results fn tm).run P w = .ok v' w ∧ VR ρ ω v v' := by
  unfold result at h
  simp only at h
  cases hb : anyBad (resultsV H e res) with
  | true => rw [hb] at h; cases h
  | false =>
    rw [hb] at h
    simp only [cond, R.ok.injEq] at h
    obtain ⟨rfl, rfl⟩ := h
    obtain ⟨vs, h1, h2⟩ := resList_sound (P := P) (w := w) hr he hres hb
    refine ⟨rfl, _, ?_, tupOf_sound h2⟩
    have hf : results fn tm = (do let vs ← fn.results.mapM (resVal tm); pure (if h : vs.size = 1 then vs[0] else .tuple vs)) := by
      unfold results
      refine congrArg (fun (f : ResultVar → Sem Value) => (do let vs ← fn.results.mapM f; pure (if h : vs.size = 1 then vs[0] else .tuple vs) : Sem Value)) ?_
      funext x
      cases x <;> rfl
    rw [hf, Array.mapM_eq_mapM_toList]
    simp only [Sem.run_bind, Sem.run_map, h1]
    rfl

/-! ### leaving: the marks are taken away -/
theorem HR.putDef (hr : HR P ρ ω H w) {r : Nat} {d : Option (List Deferred)} (hd : w.heap[r]? = some (.deferred d)) (o : Obj) : HR P ρ ω H (w.putObj r o) := by
  refine ⟨fun id => ?_, hr.inj, hr.fresh⟩
  have key : ∀ {b : Nat} {x : Obj}, w.heap[b]? = some x → (∀ d, x ≠ .deferred d) → (w.putObj r o).heap[b]? = some x := by
    intro b x h1 h2
    by_cases hb : b = r
    · subst hb; rw [hd] at h1; simp only [Option.some.injEq] at h1; exact absurd h1.symm (h2 _)
    · rw [World.putObj_heap_other hb]; exact h1
  have := hr.ok id
  cases ho : H.m.get .dead id with
  | dead => trivial
  | arr esz n d els => rw [ho] at this; obtain ⟨i, c, T, h1, h2, h3⟩ := this; exact ⟨i, c, T, h1, key h2 (fun _ h => by cases h), h3⟩
  | ro esz n d els => rw [ho] at this; obtain ⟨i, c, T, fz, h1, h2, h3⟩ := this; exact ⟨i, c, T, fz, h1, key h2 (fun _ h => by cases h), h3⟩
  | mp es => rw [ho] at this; obtain ⟨i, en, ck, h1, h2, h3⟩ := this; exact ⟨i, en, ck, h1, key h2 (fun _ h => by cases h), h3⟩
  | lp rd env ps as bd => rw [ho] at this; obtain ⟨i, r, h1, h2, h3⟩ := this; exact ⟨i, r, h1, key h2 (fun _ h => by cases h), h3⟩

theorem leaves_sound {fn : Func} {tm : Array Value} {R : Ending → World → Prop} {base : Nat} : ∀ (ds : List Deferred) {w : World}, DefOk base ρ H w ds → HR P ρ ω H w →
    (∀ w', HR P ρ ω H w' → w'.os = w.os → w'.tape = w.tape → w'.output = w.output → w'.heap.size = w.heap.size → (∀ b, (∀ d ∈ ds, ∀ r, d = { target := .collected r, args := #[] } → b ≠ r) → w'.heap[b]? = w.heap[b]?) →
      ∃ v, (results fn tm).run P w' = .ok v w' ∧ R (.returned v) w') →
    LeavesInM Fence.wide 0 P fn tm R ds .returning w := by
  intro ds
  induction ds with
  | nil => intro w _ hr hR; exact hR w hr rfl rfl rfl rfl (fun _ _ => rfl)
  | cons d ds ih =>
    intro w hdef hr hR
    obtain ⟨r, h1, h2, h3, h4, h5⟩ := hdef.ok d (by simp)
    refine ⟨by simp, .inl ⟨r, w.putObj r (.deferred none), by rw [h1], run_takeDeferred h4, ?_⟩⟩
    refine ih ⟨fun d' hd' => ?_, (List.nodup_cons.1 hdef.nodup).2⟩ (hr.putDef h4 _) fun w' hr' ho ht hp hsz hk => ?_
    · obtain ⟨r', g1, g2, g3, g4, g5⟩ := hdef.ok d' (by simp [hd'])
      have hne : r' ≠ r := fun h => by
        subst h
        exact (List.nodup_cons.1 hdef.nodup).1 (by rw [h1, ← g1]; exact hd')
      exact ⟨r', g1, g2, by simpa using g3, by rw [World.putObj_heap_other hne]; exact g4, g5⟩
    · refine hR w' hr' ho ht hp (by rw [hsz]; simp) fun b hb => ?_
      rw [hk b (fun d' hd' r' e => hb d' (by simp [hd']) r' e), World.putObj_heap_other (hb d (by simp) r h1)]
end Go.Ex

namespace Go.Ex
open Go
variable {P : Program} {ρ : Pth → Option BI} {ω : Nat → Value} {H : AH} {w : World}
variable {a : Act} {N : Nat} {S : List (Nat × Pth)} {A : List Nat} {G G' : Ctx} {L : List AVal} {e : T8 AVal}

/-- a block is laid of which nothing is said -/
theorem HR.alloc (hr : HR P ρ ω H w) (ob : Obj) : Step P ρ ω H w ρ H (w.alloc ob) where
  sub := .refl _
  hr := ⟨fun id => by
    by_cases hlv : live (H.m.get .dead id) = true
    · obtain ⟨j, hj, hlt⟩ := (hr.ok id).lt hlv
      refine ObjOk.mono (.refl _) (fun i' hi' => ?_) (hr.ok id)
      rw [hj] at hi'; cases hi'
      show (w.heap.push ob)[j.blk]? = _
      rw [Array.getElem?_push, if_neg (by omega)]
    · rw [dead_of_not_live hlv]; trivial, hr.inj, hr.fresh⟩
  os := rfl
  tape := rfl
  output := rfl
  size := by simp
  keep := fun b hb _ => by
    show (w.heap.push ob)[b]? = _
    rw [Array.getElem?_push, if_neg (by omega)]
  img := fun _ _ h => h
  imgo := fun _ _ h => h
  next := Nat.le_refl _
  dom := fun _ _ h _ => h

theorem HR.not_img (hr : HR P ρ ω H w) : ¬ Img ρ H w.heap.size := by
  rintro ⟨id, i, h1, h2, h3⟩
  obtain ⟨j, hj, hlt⟩ := (hr.ok id).lt h1
  rw [h2] at hj; cases hj
  omega

theorem GlobOk.mono {ρ' : Pth → Option BI} (hs : Sub ρ ρ') (h : GlobOk P ρ) : GlobOk P ρ' := fun k hk => let ⟨b, x, y⟩ := h k hk; ⟨b, hs _ _ x, y⟩

/-- what is known between two statements -/
structure St (P : Program) (ω : Nat → Value) (N : Nat) (S : List (Nat × Pth)) (base : Nat) (ρ : Pth → Option BI) (H : AH) (e : T8 AVal) (a : Act) (w : World) : Prop where
  env : EnvOk ρ ω S e a.tmps
  size : a.tmps.size = N
  hr : HR P ρ ω H w
  glob : GlobOk P ρ
  defs : DefOk base ρ H w a.defers
  base : base ≤ w.heap.size

theorem St.reg {base : Nat} (h : St P ω N S base ρ H e a w) : RegOk ρ ω N S ⟨[], 0⟩ [] e a := ⟨h.env, .start, .start, h.size⟩

/-- the state that an outcome speaks of -/
def Out.state : Out → Option (T8 AVal × AH)
  | .none => Option.none
  | .norm e H => some (e, H)
  | .ret e H => some (e, H)
  | .exit _ e H => some (e, H)

def Out.way : Out → Option Exit
  | .none => Option.none
  | .norm _ _ => some .normal
  | .ret _ _ => some .ret
  | .exit id _ _ => some (.exit id)

def Post (P : Program) (ω : Nat → Value) (N : Nat) (S : List (Nat × Pth)) (base : Nat) (ρ : Pth → Option BI) (H : AH) (w : World) (out : Out) : Exit → Act → World → Prop := fun ex a' w' =>
  out.way = some ex ∧ ∃ e' H', out.state = some (e', H') ∧ ∃ ρ', Step P ρ ω H w ρ' H' w' ∧ St P ω N S base ρ' H' e' a' w'

theorem Post.trans {base : Nat} {ρ0 : Pth → Option BI} {H0 : AH} {w0 : World} {out : Out} {ex : Exit} {a' : Act} {w' : World} (hs : Step P ρ0 ω H0 w0 ρ H w) (h : Post P ω N S base ρ H w out ex a' w') : Post P ω N S base ρ0 H0 w0 out ex a' w' := by
  obtain ⟨h1, e', H', h2, ρ', h3, h4⟩ := h
  exact ⟨h1, e', H', h2, ρ', hs.trans h3, h4⟩

/-- the executor below says what is so -/
def XOk (P : Program) (ω : Nat → Value) (x : CC → T8 AVal → AH → Out) : Prop :=
  ∀ {N : Nat} {S : List (Nat × Pth)} {A : List Nat} {base : Nat} {ro : Option Nat} {c : Code} {cc : CC} {e : T8 AVal} {H : AH} {ρ : Pth → Option BI} {a : Act} {w : World}, slotsOk S = true → cCode P N S A c = some cc →
    (ro = none ∨ noRange cc = true) → St P ω N S base ρ H e a w → x cc e H ≠ .none → c.wpIn (FF ro) 0 P (Post P ω N S base ρ H w (x cc e H)) a w

/-- what is known beforehand of a function is so -/
def OrcOk (P : Program) (ω : Nat → Value) (f : Nat) (o : Orc) : Prop :=
  ∀ {args : List AVal} {H : AH} {v : AVal} {H' : AH} {ρ : Pth → Option BI} {w : World} {vals : List Value}, fits o args H = true → give o H = .ok v H' → HR P ρ ω H w → GlobOk P ρ → All2 (VR ρ ω) args vals →
    ∃ fn, P.funcs[f]? = some fn ∧ (fn.name == "runtime.NumGoroutine") = false ∧ fn.body.isNone = false ∧
      CallsIn Fence.wide 0 P f vals.toArray w fun | .returned v', w' => (∃ ρ', VR ρ' ω v v' ∧ Step P ρ ω H w ρ' H' w') | _, _ => False

/-- the table holds what the program says -/
def TabOk (P : Program) (ω : Nat → Value) (T : T8 CFn) : Prop := ∀ f, T.get noFn (key f) = noFn ∨ ∃ fn S A, P.funcs[f]? = some fn ∧ cFn P S A fn = some { T.get noFn (key f) with orc := [] } ∧ ∀ o ∈ (T.get noFn (key f)).orc, OrcOk P ω f o

theorem useOrc_some {l : List Orc} {args : List AVal} {H : AH} {v : AVal} {H' : AH} (h : useOrc l args H = .ok v H') : ∃ o ∈ l, fits o args H = true ∧ give o H = .ok v H' := by
  induction l with
  | nil => cases h
  | cons o l ih =>
    unfold useOrc at h
    cases hf : fits o args H with
    | true => rw [hf] at h; exact ⟨o, List.mem_cons_self .., hf, h⟩
    | false => rw [hf] at h; obtain ⟨o', h1, h2⟩ := ih h; exact ⟨o', List.mem_cons_of_mem _ h1, h2⟩

theorem cFn_some {S : List (Nat × Pth)} {fn : Func} {cf : CFn} (h : cFn P S A fn = some cf) : ∃ b c r, fn.body = some b ∧ (fn.name == "runtime.NumGoroutine") = false ∧ slotsOk S = true ∧ fn.params.size + fn.nfree ≤ fn.ntmps ∧
    cCode P fn.ntmps S A b = some c ∧ cRes P fn.ntmps S fn.results.toList = some r ∧ cf = ⟨cParams S 0 (fn.params.size + fn.nfree), c, r, []⟩ := by
  unfold cFn at h
  simp only [Option.bind_eq_some_iff] at h
  obtain ⟨b, hb, h⟩ := h
  cases hq : (fn.name == "runtime.NumGoroutine" || !slotsOk S || Nat.blt fn.ntmps (fn.params.size + fn.nfree)) with
  | true => rw [hq] at h; cases h
  | false =>
    rw [hq] at h
    simp only [Bool.or_eq_false_iff] at hq
    simp only [cond, Option.bind_eq_some_iff, Option.some.injEq] at h
    obtain ⟨c, hc, r, hr, he⟩ := h
    refine ⟨b, c, r, hb, hq.1.1, by simpa using hq.1.2, ?_, hc, hr, he.symm⟩
    rcases Nat.lt_or_ge fn.ntmps (fn.params.size + fn.nfree) with hlt | hge
    · have : Nat.blt fn.ntmps (fn.params.size + fn.nfree) = true := Nat.ble_eq_true_of_le hlt
      rw [this] at hq; cases hq.2
    · exact hge

section
variable {T : T8 CFn} {x : CC → T8 AVal → AH → Out}

/-- a call of a function -/
theorem fn_caller (hT : TabOk P ω T) (hx : XOk P ω x) (hbad : ∀ e H, x .bad e H = .none) {f : Nat} {args : List AVal} {vals : List Value} {v : AVal} {H' : AH}
    (hv : All2 (VR ρ ω) args vals) (hr : HR P ρ ω H w) (hg : GlobOk P ρ)
    (h : (match mkEnv (T.get noFn (key f)).params args .nil with | some e0 => finish (T.get noFn (key f)) (x (T.get noFn (key f)).body e0 H) | none => .no) = R.ok v H') :
    ∃ fn, P.funcs[f]? = some fn ∧ (fn.name == "runtime.NumGoroutine") = false ∧ fn.body.isNone = false ∧
      CallsIn Fence.wide 0 P f vals.toArray w fun | .returned v', w' => (∃ ρ', VR ρ' ω v v' ∧ Step P ρ ω H w ρ' H' w') | _, _ => False := by
  rcases hT f with hno | ⟨fn, S, A, hf, hcf, _⟩
  · rw [hno] at h
    simp only [noFn] at h
    cases hm : mkEnv [] args .nil with
    | none => rw [hm] at h; cases h
    | some e0 => rw [hm] at h; simp only [hbad] at h; cases h
  · obtain ⟨b, c, r, hb, hn, hS, hnt, hc, hres, hcfe⟩ := cFn_some hcf
    generalize T.get noFn (key f) = cf at h hcfe
    obtain ⟨q1, q2, q3, q4⟩ := cf
    simp only [CFn.mk.injEq, and_true] at hcfe
    obtain ⟨e1, e2, e3⟩ := hcfe
    simp only at h
    rw [e1, e2, e3] at h
    cases hm : mkEnv (cParams S 0 (fn.params.size + fn.nfree)) args .nil with
    | none => rw [hm] at h; cases h
    | some e0 =>
      rw [hm] at h
      simp only at h
      refine ⟨fn, hf, hn, by rw [hb]; rfl, callsIn_of_wp_marks hf hb trivial ?_⟩
      have hlen := mkEnv_length hm
      rw [cParams_length] at hlen
      have hlen2 := hv.length
      have hst : St P ω fn.ntmps S w.heap.size ρ H e0 { tmps := vals.toArray ++ Array.replicate (fn.ntmps - vals.toArray.size) undef, defers := [] } w :=
        ⟨enter_env hS hv hm, by simp; omega, hr, hg, ⟨fun _ h => (by cases h), List.nodup_nil⟩, Nat.le_refl _⟩
      have hne : x c e0 H ≠ .none := by
        intro h0
        rw [h0] at h
        cases h
      refine wpIn_mono (hx (ro := none) hS hc (.inl rfl) hst hne) fun ex a' w' hp => ?_
      obtain ⟨h1, e', H2, h2, ρ', h3, h4⟩ := hp
      have fin : result H2 e' r = .ok v H' → LeavesInM Fence.wide 0 P fn a'.tmps (fun | .returned v', w' => (∃ ρ', VR ρ' ω v v' ∧ Step P ρ ω H w ρ' H' w') | _, _ => False) a'.defers .returning w' := by
        intro hres2
        refine leaves_sound a'.defers h4.defs h4.hr fun w2 hr2 ho ht hp hsz hk => ?_
        obtain ⟨rfl, v', g1, g2⟩ := results_sound hr2 h4.env hres hres2
        refine ⟨v', g1, ρ', g2, ?_⟩
        exact ⟨h3.sub, hr2, ho.trans h3.os, ht.trans h3.tape, hp.trans h3.output, by rw [hsz]; exact h3.size, fun b hb hi => (hk b (fun d hd r hdr => by
          obtain ⟨r', q1, q2, _⟩ := h4.defs.ok d hd
          rw [q1] at hdr
          simp only [Deferred.mk.injEq, Target.collected.injEq] at hdr
          omega)).trans (h3.keep b hb hi), h3.img, h3.imgo, h3.next, h3.dom⟩
      cases hxo : x c e0 H with
      | none => exact absurd hxo hne
      | norm e1 H1 =>
        rw [hxo] at h h1 h2
        simp only [Out.way, Option.some.injEq] at h1
        subst h1
        simp only [Out.state, Option.some.injEq, Prod.mk.injEq] at h2
        obtain ⟨rfl, rfl⟩ := h2
        exact fin h
      | ret e1 H1 =>
        rw [hxo] at h h1 h2
        simp only [Out.way, Option.some.injEq] at h1
        subst h1
        simp only [Out.state, Option.some.injEq, Prod.mk.injEq] at h2
        obtain ⟨rfl, rfl⟩ := h2
        exact fin h
      | exit id e1 H1 => rw [hxo] at h; cases h

/-- a call of yield: one round -/
theorem yield_caller (hx : XOk P ω x) {l : Pth} {i : BI} {args : List AVal} {vals : List Value} {v : AVal} {H' : AH} (hl : ρ l = some i) (hv : All2 (VR ρ ω) args vals) (hr : HR P ρ ω H w) (hg : GlobOk P ρ)
    (h : caller T x (.yld l) args H = .ok v H') : CallOk P w vals (fun v' w' => ∃ ρ', VR ρ' ω v v' ∧ Step P ρ ω H w ρ' H' w') (.func (.yield i.blk) #[] #[]) := by
  simp only [caller] at h
  have hobj := hr.ok l
  cases ho : H.m.get .dead l with
  | dead => rw [ho] at h; cases h
  | mp _ => rw [ho] at h; cases h
  | ro _ _ _ _ => rw [ho] at h; cases h
  | arr _ _ _ _ => rw [ho] at h; cases h
  | lp rd env ps as bd =>
    rw [ho] at h hobj
    cases rd with
    | false => cases h
    | true =>
      simp only at h
      obtain ⟨i', r, hi', hheap, hlo⟩ := hobj
      rw [hl] at hi'; cases hi'
      obtain ⟨⟨S, A, hS, henv, hmap, hall, has, hbd⟩, hnr, hstate, hpend⟩ := hlo
      cases hm : mkEnv (ps.map some) args env with
      | none => rw [hm] at h; cases h
      | some e1 =>
        rw [hm] at h
        simp only at h
        have hlt : ∀ t ∈ r.params.toList, t < r.tmps.size := by
          intro t ht
          rw [Array.all_eq_true'] at hall
          exact Nat.le_of_ble_eq_true (hall t (by simpa using ht))
        obtain ⟨g1, g2, g3⟩ := mkEnv_round hS hmap hlt hv hm henv
        have hfold : (r.params.zip vals.toArray).foldl (fun tmps (t, a) => tmps.setIfInBounds t a) r.tmps = (r.params.toList.zip vals).foldl (fun tmps (t, a) => tmps.setIfInBounds t a) r.tmps := by
          rw [← Array.foldl_toList, Array.toList_zip]
        refine .yield i.blk r.fn _ r.assign r.body (run_yield hheap (by simpa using g3.symm)) ?_
        refine roundIn_of_wpIn trivial ?_
        rw [hfold]
        generalize hv2 : (r.params.toList.zip vals).foldl (fun tmps (t, a) => tmps.setIfInBounds t a) r.tmps = tm at g1 g2
        have hst : St P ω r.tmps.size S w.heap.size ρ H e1 { tmps := tm, defers := [] } w :=
          ⟨g1, g2, hr, hg, ⟨fun _ h => (by cases h), List.nodup_nil⟩, Nat.le_refl _⟩
        have hne : x as e1 H ≠ .none := by intro h0; rw [h0] at h; cases h
        refine wpIn_mono (hx (ro := some i.blk) hS has (.inr hnr.1) hst hne) fun ex a' w' hp => ?_
        obtain ⟨h1, e', H2, h2, ρ', h3, h4⟩ := hp
        cases hxo : x as e1 H with
        | none => exact absurd hxo hne
        | ret _ _ => rw [hxo] at h; cases h
        | exit _ _ _ => rw [hxo] at h; cases h
        | norm e2 H2' =>
          rw [hxo] at h h1 h2
          simp only [Out.way, Option.some.injEq] at h1
          subst h1
          simp only [Out.state, Option.some.injEq, Prod.mk.injEq] at h2
          obtain ⟨rfl, rfl⟩ := h2
          simp only at h
          have hobj2 := h4.hr.ok l
          cases ho2 : H2'.m.get .dead l with
          | dead => rw [ho2] at h; cases h
          | mp _ => rw [ho2] at h; cases h
          | ro _ _ _ _ => rw [ho2] at h; cases h
          | arr _ _ _ _ => rw [ho2] at h; cases h
          | lp rd2 env2 ps2 as2 bd2 =>
            rw [ho2] at h hobj2
            cases rd2 with
            | false => cases h
            | true =>
              simp only at h
              obtain ⟨i2, r2, hi2, hheap2, hok2, hnr2, hstate2, hpend2⟩ := hobj2
              have hii : i2 = i := by have := h3.sub _ _ hl; rw [this] at hi2; cases hi2; rfl
              subst hii
              have hown2 : owned (H2'.m.get .dead l) = true := by rw [ho2]; rfl
              have st2 : Step P ρ' ω H2' w' ρ' (H2'.set l (.lp false env2 ps2 as2 bd2)) (w'.putObj i2.blk (.loop { r2 with state := .busy })) :=
                h4.hr.set hi2 hown2 rfl rfl rfl (by simp) (fun b hb => World.putObj_heap_other hb)
                  ⟨i2, _, hi2, World.putObj_heap_same (Array.getElem?_eq_some_iff.1 hheap2).1, hok2, hnr2, rfl, hpend2⟩
              refine ⟨_, run_beginRound hheap2 hstate2, ?_⟩
              have hst2 : St P ω r.tmps.size S w.heap.size ρ' (H2'.set l (.lp false env2 ps2 as2 bd2)) e2 a' (w'.putObj i2.blk (.loop { r2 with state := .busy })) :=
                ⟨h4.env, h4.size, st2.hr, h4.glob, h4.defs.step st2, Nat.le_trans h4.base st2.size⟩
              have hne2 : x bd e2 (H2'.set l (.lp false env2 ps2 as2 bd2)) ≠ .none := by intro h0; rw [h0] at h; cases h
              refine wpIn_mono (hx (ro := some i2.blk) hS hbd (.inr hnr.2) hst2 hne2) fun ex a'' w'' hp => ?_
              obtain ⟨q1, e3, H3, q2, ρ3, q3, q4⟩ := hp
              cases hxo2 : x bd e2 (H2'.set l (.lp false env2 ps2 as2 bd2)) with
              | none => exact absurd hxo2 hne2
              | ret _ _ => rw [hxo2] at h; cases h
              | exit _ _ _ => rw [hxo2] at h; cases h
              | norm e4 H4 =>
                rw [hxo2] at h q1 q2
                simp only [Out.way, Option.some.injEq] at q1
                subst q1
                simp only [Out.state, Option.some.injEq, Prod.mk.injEq] at q2
                obtain ⟨rfl, rfl⟩ := q2
                simp only at h
                have hobj3 := q4.hr.ok l
                cases ho3 : H4.m.get .dead l with
                | dead => rw [ho3] at h; cases h
                | mp _ => rw [ho3] at h; cases h
                | ro _ _ _ _ => rw [ho3] at h; cases h
                | arr _ _ _ _ => rw [ho3] at h; cases h
                | lp rd3 env3 ps3 as3 bd3 =>
                  rw [ho3] at h hobj3
                  cases rd3 with
                  | true => cases h
                  | false =>
                    simp only [R.ok.injEq] at h
                    obtain ⟨rfl, rfl⟩ := h
                    obtain ⟨i3, r3, hi3, hheap3, hok3, hnr3, hstate3, hpend3⟩ := hobj3
                    have hii : i3 = i2 := by have := q3.sub _ _ (h3.sub _ _ hl); rw [this] at hi3; cases hi3; rfl
                    subst hii
                    have hown3 : owned (H4.m.get .dead l) = true := by rw [ho3]; rfl
                    have st3 : Step P ρ3 ω H4 w'' ρ3 (H4.set l (.lp true env3 ps3 as3 bd3)) (w''.putObj i3.blk (.loop { r3 with state := .ready, pending := none })) :=
                      q4.hr.set hi3 hown3 rfl rfl rfl (by simp) (fun b hb => World.putObj_heap_other hb)
                        ⟨i3, _, hi3, World.putObj_heap_same (Array.getElem?_eq_some_iff.1 hheap3).1, hok3, hnr3, rfl, rfl⟩
                    refine ⟨.bool true, _, run_endRound none hheap3, ρ3, .bool true, ?_⟩
                    exact (h3.trans st2).trans (q3.trans st3)

theorem caller_ok (hT : TabOk P ω T) (hx : XOk P ω x) (hbad : ∀ e H, x .bad e H = .none) : CallerOk P ω (caller T x) := by
  intro g args H v H' ρ w g' vals h hr hg hgv hv
  cases hgv with
  | fnv f caps cs hcs =>
    simp only [caller] at h
    rw [app_eq] at h
    cases hu : useOrc (T.get noFn (key f)).orc (args ++ caps) H with
    | ok v0 H0 =>
      rw [hu] at h
      simp only [R.ok.injEq] at h
      obtain ⟨rfl, rfl⟩ := h
      obtain ⟨o, ho, hfit, hgive⟩ := useOrc_some hu
      rcases hT f with hno | ⟨fn, S, A, hf, hcf, horc⟩
      · rw [hno] at ho; cases ho
      · obtain ⟨fn, h1, h2, h3, h4⟩ := horc o ho hfit hgive hr hg (hv.append hcs)
        exact .fn f cs fn h1 h2 h3 (h4.mono fun e w' he => by cases e <;> exact he)
    | no =>
      rw [hu] at h
      obtain ⟨fn, h1, h2, h3, h4⟩ := fn_caller hT hx hbad (hv.append hcs) hr hg h
      exact .fn f cs fn h1 h2 h3 h4
  | yld l i hi => exact yield_caller hx hi hv hr hg h
  | _ => cases h
end
end Go.Ex

namespace Go.Ex
open Go
variable {P : Program} {ρ : Pth → Option BI} {ω : Nat → Value} {H : AH} {w : World}
variable {a : Act} {N : Nat} {S : List (Nat × Pth)} {A : List Nat} {G G' : Ctx} {L : List AVal} {e : T8 AVal}

/-! ### loops -/
theorem least {p : Nat → Prop} (h : ∃ n, p n) : ∃ n, p n ∧ ∀ m, p m → n ≤ m := by
  classical
  obtain ⟨n, hn⟩ := h
  induction n using Nat.strongRecOn with
  | _ n ih =>
    by_cases hq : ∃ m, m < n ∧ p m
    · obtain ⟨m, hm, hpm⟩ := hq
      exact ih m hm hpm
    · exact ⟨n, hn, fun m hm => by
        rcases Nat.lt_or_ge m n with h | h
        · exact absurd ⟨m, h, hm⟩ hq
        · exact h⟩

open Classical in
theorem wpIn_loop_ix {F : Fence} {n : Nat} {Q : Exit → Act → World → Prop} {c : Code} (I : Nat → Act → World → Prop)
    (round : ∀ j a w, I j a w → c.wpIn F n P (Exit.then (fun a' w' => ∃ i, i < j ∧ I i a' w') Q) a w) {j : Nat} (h : I j a w) : (Code.loop c).wpIn F n P Q a w := by
  let μ : Act → World → Nat := fun a w => if h : ∃ j, I j a w then (least h).choose else 0
  refine wpIn_loop (fun a w => ∃ j, I j a w) μ ⟨j, h⟩ fun a w hI => ?_
  have hm := (least hI).choose_spec
  have hμ : μ a w = (least hI).choose := dif_pos hI
  refine wpIn_mono (round _ a w hm.1) fun ex a' w' hq => ?_
  cases ex with
  | normal =>
    obtain ⟨i, hi, hIi⟩ := hq
    refine ⟨⟨i, hIi⟩, ?_⟩
    have hI' : ∃ j, I j a' w' := ⟨i, hIi⟩
    have hμ' : μ a' w' = (least hI').choose := dif_pos hI'
    have := (least hI').choose_spec.2 i hIi
    omega
  | exit id => exact hq
  | goto l => exact hq
  | ret => exact hq
  | panic ch => exact hq
  | outgrown => exact hq

section
variable {T : T8 CFn} {x : CC → T8 AVal → AH → Out}

/-- a region in the order of the text -/
theorem region_wp (hω : ∀ i, (ω i).oneCell' = true) {call : Caller} (hcall : CallerOk P ω call) (hS : slotsOk S = true) {id : Nat} {ops : Array Oper} {ro : Option Nat} {base : Nat} {r : List CO} (hcomp : cOpers P N S A ops ⟨[], 0⟩ ops.toList = some (r, G'))
    (hst : St P ω N S base ρ H e a w) {L' : List AVal} {e' : T8 AVal} {H' : AH} (hrun : runOps call r [] e H = .ok L' e' H') :
    (Code.region id ops false).wpIn (FF ro) 0 P (fun ex a' w' => ex = .normal ∧ ∃ ρ', Step P ρ ω H w ρ' H' w' ∧ RegOk ρ' ω N S G' L' e' a' ∧ St P ω N S base ρ' H' e' a' w') a w := by
  refine wpIn_region ?_
  have hrange : List.range ops.size = List.range' 0 ops.toList.length := by rw [List.range_eq_range']; simp
  rw [hrange]
  refine opers_sound hω hcall hS ops.toList 0 rfl _ hcomp hst.hr hst.glob hst.reg rfl hst.defs hrun fun ρ' a' w' hs hreg hds hdef hg => ?_
  refine ⟨rfl, ρ', hs, hreg, hreg.env, hreg.size, hs.hr, hg, ?_, Nat.le_trans hst.base hs.size⟩
  rw [hds]; exact hdef

theorem then_mono {F : Fence} {n : Nat} {c : Code} {Q Q' : Exit → Act → World → Prop} (h : c.wpIn F n P Q a w) (hq : ∀ ex a w, Q ex a w → Q' ex a w) : c.wpIn F n P Q' a w := wpIn_mono h hq

/-- a region and the test behind it -/
theorem regc_wp (hω : ∀ i, (ω i).oneCell' = true) (hcall : CallerOk P ω (caller T x)) (hx : XOk P ω x) (hS : slotsOk S = true) {id : Nat} {ops : Array Oper} {ro : Option Nat} {base : Nat} {c : Operand} {ca cb : Code} {xa xb cc : CC}
    (ha : cCode P N S A ca = some xa) (hb : cCode P N S A cb = some xb) (hc : cRegC P N S A ops c xa xb = some cc) (hnr : ro = none ∨ noRange cc = true) (hst : St P ω N S base ρ H e a w) (hne : execS T x cc e H ≠ .none)
    {Q Q0 : Exit → Act → World → Prop} (hQ : ∀ ex a' w', Post P ω N S base ρ H w (execS T x cc e H) ex a' w' → Q ex a' w') :
    (Code.region id ops false).wpIn (FF ro) 0 P (Exit.then ((Code.cond c ca cb).wpIn (FF ro) 0 P Q) Q0) a w := by
  unfold cRegC at hc
  simp only [Option.bind_eq_some_iff] at hc
  obtain ⟨⟨r, G'⟩, h1, k, h2, h3⟩ := hc
  simp only [Option.some.injEq] at h3
  subst h3
  simp only [execS, ofL_toL] at hne hQ
  cases hrun : runOps (caller T x) r [] e H with
  | none => rw [hrun] at hne; exact absurd rfl hne
  | ok L' e' H' =>
    rw [hrun] at hne hQ
    simp only at hne hQ
    refine wpIn_mono (region_wp hω hcall hS h1 hst hrun) fun ex a' w' hp => ?_
    obtain ⟨rfl, ρ', hs, hreg, hst'⟩ := hp
    have hv := cOpd_sound hst'.glob hreg.env hreg.ctx h2
    show (Code.cond c ca cb).wpIn (FF ro) 0 P Q a' w'
    have hnr' : ro = none ∨ (noRange xa = true ∧ noRange xb = true) := by
      rcases hnr with h | h
      · exact .inl h
      · simp only [noRange, Bool.and_eq_true] at h; exact .inr h
    generalize hkv : k.ev L' e' = kv at hv hne hQ
    generalize hcv : a'.eval c = cv at hv
    cases hv with
    | bool t =>
      cases t with
      | true =>
        refine wpIn_cond_true hcv ?_
        exact wpIn_mono (hx hS ha (hnr'.imp (fun h => h) And.left) hst' hne) fun ex a'' w'' hp => hQ ex a'' w'' (hp.trans hs)
      | false =>
        refine wpIn_cond_false hcv ?_
        exact wpIn_mono (hx hS hb (hnr'.imp (fun h => h) And.right) hst' hne) fun ex a'' w'' hp => hQ ex a'' w'' (hp.trans hs)
    | _ => exact absurd rfl hne
end
end Go.Ex

namespace Go.Ex
open Go
variable {P : Program} {ρ : Pth → Option BI} {ω : Nat → Value} {H : AH} {w : World}
variable {a : Act} {N : Nat} {S : List (Nat × Pth)} {A : List Nat} {G G' : Ctx} {L : List AVal} {e : T8 AVal}

/-- regions that draw their order -/
def DrawnOk (P : Program) (ω : Nat → Value) : Prop :=
  ∀ {call : Caller} (_ : CallerOk P ω call) {N : Nat} {S : List (Nat × Pth)} {id : Nat} {ops : Array Oper} {l : List (CO × Dw)} {ro : Option Nat} {base : Nat} {ρ : Pth → Option BI} {H : AH} {e : T8 AVal} {a : Act} {w : World} (_ : slotsOk S = true)
    (_ : cRegD P N S ops = some (.regd l)) (_ : St P ω N S base ρ H e a w) (_ : runD call l e (reserve l H) H.next 0 [] [reserve l H] [] ≠ .none),
    (Code.region id ops true).wpIn (FF ro) 0 P (Post P ω N S base ρ H w (runD call l e (reserve l H) H.next 0 [] [reserve l H] [])) a w

theorem Post.norm {base : Nat} {e' : T8 AVal} {H' : AH} {a' : Act} {w' : World} {ρ' : Pth → Option BI} (hs : Step P ρ ω H w ρ' H' w') (h : St P ω N S base ρ' H' e' a' w') : Post P ω N S base ρ H w (.norm e' H') .normal a' w' :=
  ⟨rfl, e', H', rfl, ρ', hs, h⟩

theorem Post.elim_norm {base : Nat} {e' : T8 AVal} {H' : AH} {ex : Exit} {a' : Act} {w' : World} (h : Post P ω N S base ρ H w (.norm e' H') ex a' w') : ex = .normal ∧ ∃ ρ', Step P ρ ω H w ρ' H' w' ∧ St P ω N S base ρ' H' e' a' w' := by
  obtain ⟨h1, e1, H1, h2, ρ', h3, h4⟩ := h
  simp only [Out.way, Option.some.injEq] at h1
  simp only [Out.state, Option.some.injEq, Prod.mk.injEq] at h2
  obtain ⟨rfl, rfl⟩ := h2
  exact ⟨h1.symm, ρ', h3, h4⟩
theorem Post.elim_ret {base : Nat} {e' : T8 AVal} {H' : AH} {ex : Exit} {a' : Act} {w' : World} (h : Post P ω N S base ρ H w (.ret e' H') ex a' w') : ex = .ret := by
  have h1 := h.1
  simp only [Out.way, Option.some.injEq] at h1
  exact h1.symm
theorem Post.elim_exit {base : Nat} {id : Nat} {e' : T8 AVal} {H' : AH} {ex : Exit} {a' : Act} {w' : World} (h : Post P ω N S base ρ H w (.exit id e' H') ex a' w') : ex = .exit id := by
  have h1 := h.1
  simp only [Out.way, Option.some.injEq] at h1
  exact h1.symm

section
variable {T : T8 CFn} {x : CC → T8 AVal → AH → Out}

theorem mapM_arr {ps : Array Tmp} {q : List Pth} (h : ps.toList.mapM (look S) = some q) : ps.toList.mapM (look S) = some q := h

/-- a range over a function -/
theorem range_wp (hcall : CallerOk P ω (caller T x)) (hS : slotsOk S = true) {base : Nat} {f : Operand} {ps : Array Tmp} {as bd : Code} {cf : COpd} {q : List Pth} {xa xb : CC} (hf : cOpd P N S ⟨[], 0⟩ f = some cf) (hq : ps.toList.mapM (look S) = some q)
    (hps : (ps.all fun t => Nat.blt t N) = true) (ha : cCode P N S A as = some xa) (hb : cCode P N S A bd = some xb) (hnr : noRange xa = true ∧ noRange xb = true) (hst : St P ω N S base ρ H e a w) (hne : execS T x (.rangeF cf q xa xb) e H ≠ .none) :
    (Code.rangeFunc f ps as bd).wpIn (FF none) 0 P (Post P ω N S base ρ H w (execS T x (.rangeF cf q xa xb) e H)) a w := by
  refine wpIn_rangeFunc fun fn _ => ?_
  simp only [execS] at hne ⊢
  have hv := cOpd_sound hst.glob hst.env hst.reg.ctx hf
  generalize hfe : cf.ev [] e = fv at hv hne ⊢
  generalize hge : a.eval f = gv at hv
  cases hv with
  | fnv fi caps cs hcs =>
    simp only at hne ⊢
    have s1 := hst.hr.alloc (.deferred (some []))
    have s2 := s1.hr.add (o := .lp true e q xa xb) (ob := .loop { state := .ready, pending := none, fn, tmps := a.tmps, params := ps, assign := as, body := bd, defers := w.heap.size }) (i := ⟨w.heap.size + 1, 0, 0⟩) (by simp)
      ⟨_, { state := .ready, pending := none, fn, tmps := a.tmps, params := ps, assign := as, body := bd, defers := w.heap.size }, ext_same _ _ _, by
        have := World.alloc_heap_new (w.alloc (.deferred (some []))) (.loop { state := .ready, pending := none, fn, tmps := a.tmps, params := ps, assign := as, body := bd, defers := w.heap.size })
        rwa [World.size_alloc] at this, ⟨S, A, hS, hst.env.mono (sub_ext s1.hr _), hq, by rw [hst.size]; exact hps, by rw [hst.size]; exact ha, by rw [hst.size]; exact hb⟩, hnr, rfl, rfl⟩
    cases hc : caller T x (.fnv (key fi) caps) [.yld H.next] (H.add (.lp true e q xa xb)) with
    | no => rw [hc] at hne; exact absurd rfl hne
    | ok v H' =>
      rw [hc] at hne
      simp only at hne ⊢
      have s12 := s1.trans s2
      have hco := hcall hc s2.hr (hst.glob.mono s12.sub) (.fnv fi caps cs (VRs.mono s12.sub hcs)) (.cons (.yld H.next _ (ext_same _ _ _)) .nil)
      cases hco with
      | fn _ caps' fn' hf' hn' hb' hci =>
        refine ⟨w.heap.size + 1, _, _, { target := .fn (.func fi) cs.toArray, args := #[.func (.yield (w.heap.size + 1)) #[] #[]] }, (w.alloc (.deferred (some []))).alloc (.loop { state := .ready, pending := none, fn, tmps := a.tmps, params := ps, assign := as, body := bd, defers := w.heap.size }), fi, _, _, run_enterLoop_outer fn a.tmps ps as bd, ?_, fun _ _ => trivial, ?_, fun h => (by cases h), hci.mono fun en w' hen => ?_⟩
        · simp only [resolve, hge, Deferred.ofValue, Sem.run_pure]; simp [Act.eval]
        · simp only [invoke, callFunc, Sem.run_bind, run_program, Result.andThen_ok, hf', hn', hb', Bool.false_eq_true, if_false, Sem.run_pure, List.append_toArray]
        cases en with
        | panicked c => exact hen.elim
        | outgrown => exact hen.elim
        | returned v' =>
          obtain ⟨ρ', _, s3⟩ := hen
          have hobj := s3.hr.ok H.next
          cases ho : H'.m.get .dead H.next with
          | dead => rw [ho] at hne; exact absurd rfl hne
          | mp _ => rw [ho] at hne; exact absurd rfl hne
          | ro _ _ _ _ => rw [ho] at hne; exact absurd rfl hne
          | arr _ _ _ _ => rw [ho] at hne; exact absurd rfl hne
          | lp rd env ps2 as2 bd2 =>
            rw [ho] at hne hobj
            cases rd with
            | false => exact absurd rfl hne
            | true =>
              obtain ⟨i, r, hi, hheap, hok, hnr2, hstate, hpend⟩ := hobj
              obtain ⟨st0, pend0, fn0, tm0, ps0, as0, bd0, df0⟩ := r
              simp only at hpend hstate
              subst hpend
              have hii := s3.sub _ _ (ext_same ρ H.next ⟨w.heap.size + 1, 0, 0⟩)
              rw [hi] at hii; cases hii
              have hown : owned (H'.m.get .dead H.next) = true := by rw [ho]; rfl
              have s4 : Step P ρ' ω H' w' ρ' (H'.set H.next .dead) (w'.putObj (w.heap.size + 1) (.loop ⟨.exhausted, none, fn0, tm0, ps0, as0, bd0, df0⟩)) :=
                s3.hr.set hi hown rfl rfl rfl (by simp) (fun b hb => World.putObj_heap_other hb) trivial
              refine ⟨none, _, run_endLoop hheap (by simp [hstate]), ?_⟩
              have s34 := s3.trans s4
              have s24 := s2.trans s34
              have s14 := s1.trans s24
              refine Post.norm s14 ⟨hst.env.mono s14.sub, hst.size, s4.hr, hst.glob.mono s14.sub, ?_, Nat.le_trans hst.base s14.size⟩
              have hd1 : DefOk base ρ H (w.alloc (.deferred (some []))) ({ target := .collected w.heap.size, args := #[] } :: a.defers) := by
                have h0 := hst.defs.step s1
                refine ⟨fun d hd => ?_, List.nodup_cons.2 ⟨fun hd => ?_, h0.nodup⟩⟩
                · rcases List.mem_cons.1 hd with rfl | hd
                  · exact ⟨w.heap.size, rfl, hst.base, by simp, World.alloc_heap_new _ _, hst.hr.not_img⟩
                  · exact h0.ok d hd
                · obtain ⟨r', q1, _, q3, _⟩ := hst.defs.ok _ hd
                  simp only [Deferred.mk.injEq, Target.collected.injEq] at q1
                  omega
              exact hd1.step s24
  | _ => exact absurd rfl hne

theorem exec_bad (n : Nat) (e : T8 AVal) (H : AH) : exec T n .bad e H = .none := by cases n <;> rfl

theorem xok_nr {ro : Option Nat} {p q : Bool} (h : ro = none ∨ (p && q) = true) : (ro = none ∨ p = true) ∧ (ro = none ∨ q = true) := by
  rcases h with h | h
  · exact ⟨.inl h, .inl h⟩
  · rw [Bool.and_eq_true] at h; exact ⟨.inr h.1, .inr h.2⟩

theorem exec_ok (hω : ∀ i, (ω i).oneCell' = true) (hT : TabOk P ω T) (hD : DrawnOk P ω) (n : Nat) : XOk P ω (exec T n) := by
  induction n using Nat.strongRecOn with
  | _ n ih =>
  intro N S A base ro c cc e H ρ a w hS hc hnr hst hne
  cases n with
  | zero => exact absurd rfl hne
  | succ n =>
  have hx : XOk P ω (exec T n) := ih n (Nat.lt_succ_self n)
  have hcall : CallerOk P ω (caller T (exec T n)) := caller_ok hT hx (exec_bad n)
  have hexec : exec T (n + 1) = execS T (exec T n) := rfl
  rw [hexec] at hne ⊢
  unfold cCode at hc
  split at hc
  · -- skip
    simp only [Option.some.injEq] at hc; subst hc
    exact wpIn_skip (Post.norm (.refl hst.hr) hst)
  · -- label
    simp only [Option.some.injEq] at hc; subst hc
    exact wpIn_label (Post.norm (.refl hst.hr) hst)
  · -- ret
    simp only [Option.some.injEq] at hc; subst hc
    exact wpIn_ret ⟨rfl, e, H, rfl, ρ, .refl hst.hr, hst⟩
  · -- exit
    simp only [Option.some.injEq] at hc; subst hc
    exact wpIn_exit ⟨rfl, e, H, rfl, ρ, .refl hst.hr, hst⟩
  · -- a region and a test
    simp only [Option.bind_eq_some_iff] at hc
    obtain ⟨xa, ha, xb, hb, hc⟩ := hc
    refine wpIn_seq ?_
    exact regc_wp hω hcall hx hS ha hb hc hnr hst hne fun _ _ _ h => h
  · -- a region, a test, and on
    rename_i rid ops rc ca cb cr
    simp only [Option.bind_eq_some_iff, Option.some.injEq] at hc
    obtain ⟨xa, ha, xb, hb, xr, hr, xc, hc, rfl⟩ := hc
    simp only [noRange] at hnr
    obtain ⟨hn1, hn2⟩ := xok_nr hnr
    simp only [execS] at hne ⊢
    cases n with
    | zero => exact absurd rfl hne
    | succ m =>
    have hx' : XOk P ω (exec T m) := ih m (by omega)
    have hcall' : CallerOk P ω (caller T (exec T m)) := caller_ok hT hx' (exec_bad m)
    have hexec' : exec T (m + 1) = execS T (exec T m) := rfl
    have hne1 : execS T (exec T m) xc e H ≠ .none := by
      intro h0
      rw [hexec', h0] at hne
      exact hne rfl
    refine wpIn_seq ?_
    generalize hQf : Post P ω N S base ρ H w _ = Qf
    have hQf' : ∀ ex a' w', Post P ω N S base ρ H w (execS T (exec T m) xc e H) ex a' w' → Exit.then (cr.wpIn (FF ro) 0 P Qf) Qf ex a' w' := ?_
    · refine wpIn_mono (regc_wp (Q0 := fun _ _ _ => False) hω hcall' hx' hS ha hb hc hn1 hst hne1 hQf') ?_
      intro ex a' w' h
      cases ex with
      | normal => exact wpIn_seq h
      | exit id => exact h.elim
      | goto l => exact h.elim
      | ret => exact h.elim
      | panic ch => exact h.elim
      | outgrown => exact h.elim
    · intro ex a' w' h
      subst hQf
      rw [hexec'] at hne ⊢
      generalize hgo : execS T (exec T m) xc e H = out at hne h ⊢
      cases out with
      | none => exact absurd rfl hne
      | norm e1 H1 =>
        obtain ⟨rfl, ρ', h3, h4⟩ := h.elim_norm
        refine wpIn_mono (hx hS hr hn2 h4 hne) fun ex a'' w'' hp => ?_
        exact hp.trans h3
      | ret e1 H1 => obtain rfl := h.elim_ret; exact h
      | exit id e1 H1 => obtain rfl := h.elim_exit; exact h
  · -- seq
    simp only [Option.bind_eq_some_iff, Option.some.injEq] at hc
    obtain ⟨xa, ha, xb, hb, rfl⟩ := hc
    simp only [noRange] at hnr
    obtain ⟨hn1, hn2⟩ := xok_nr hnr
    simp only [execS] at hne ⊢
    have hne1 : exec T n xa e H ≠ .none := by intro h0; rw [h0] at hne; exact hne rfl
    refine wpIn_seq (wpIn_mono (hx hS ha hn1 hst hne1) fun ex a' w' h => ?_)
    generalize hgo : exec T n xa e H = out at hne h ⊢
    cases out with
    | none => exact absurd rfl hne
    | norm e1 H1 =>
      obtain ⟨rfl, ρ', h3, h4⟩ := h.elim_norm
      exact wpIn_mono (hx hS hb hn2 h4 hne) fun ex a'' w'' hp => hp.trans h3
    | ret e1 H1 => obtain rfl := h.elim_ret; exact h
    | exit id e1 H1 => obtain rfl := h.elim_exit; exact h
  · -- cond
    simp only [Option.bind_eq_some_iff, Option.some.injEq] at hc
    obtain ⟨k, hk, xa, ha, xb, hb, rfl⟩ := hc
    simp only [noRange] at hnr
    obtain ⟨hn1, hn2⟩ := xok_nr hnr
    simp only [execS] at hne ⊢
    have hv := cOpd_sound hst.glob hst.env hst.reg.ctx hk
    generalize hkv : k.ev [] e = kv at hv hne ⊢
    generalize hcv : a.eval _ = cv at hv
    cases hv with
    | bool t =>
      cases t with
      | true => exact wpIn_cond_true hcv (hx hS ha hn1 hst hne)
      | false => exact wpIn_cond_false hcv (hx hS hb hn2 hst hne)
    | _ => exact absurd rfl hne
  · -- block
    simp only [Option.bind_eq_some_iff, Option.some.injEq] at hc
    obtain ⟨xa, ha, rfl⟩ := hc
    simp only [noRange] at hnr
    simp only [execS] at hne ⊢
    have hne1 : exec T n xa e H ≠ .none := by intro h0; rw [h0] at hne; exact hne rfl
    refine wpIn_block (wpIn_mono (hx hS ha hnr hst hne1) fun ex a' w' h => ?_)
    generalize hgo : exec T n xa e H = out at hne h ⊢
    cases out with
    | none => exact absurd rfl hne
    | norm e1 H1 => obtain ⟨rfl, _⟩ := h.elim_norm; exact h
    | ret e1 H1 => obtain rfl := h.elim_ret; exact h
    | exit id e1 H1 =>
      obtain rfl := h.elim_exit
      simp only [Exit.inBlock]
      obtain ⟨_, e2, H2, h2, ρ', h3, h4⟩ := h
      simp only [Out.state, Option.some.injEq, Prod.mk.injEq] at h2
      obtain ⟨rfl, rfl⟩ := h2
      rename_i bid _ _
      cases hb : Nat.beq bid id with
      | true =>
        rw [if_pos (Nat.eq_of_beq_eq_true hb).symm]
        exact Post.norm h3 h4
      | false =>
        rw [if_neg (fun h => by subst h; rw [Nat.beq_eq.mpr rfl] at hb; cases hb)]
        exact ⟨rfl, _, _, rfl, ρ', h3, h4⟩
  · -- loop
    rename_i lc
    simp only [Option.bind_eq_some_iff, Option.some.injEq] at hc
    obtain ⟨xa, ha, rfl⟩ := hc
    simp only [noRange] at hnr
    have hI : ∀ out, execS T (exec T n) (.loop xa) e H = out → out ≠ .none →
        (Code.loop lc).wpIn (FF ro) 0 P (Post P ω N S base ρ H w out) a w := by
      intro out hout hno
      refine wpIn_loop_ix (fun j a1 w1 => j ≤ n + 1 ∧ ∃ ρ1 e1 H1, Step P ρ ω H w ρ1 H1 w1 ∧ St P ω N S base ρ1 H1 e1 a1 w1 ∧ exec T j (.loop xa) e1 H1 = out) (j := n + 1) ?_ ⟨Nat.le_refl _, ρ, e, H, .refl hst.hr, hst, hout⟩
      rintro j a1 w1 ⟨hj, ρ1, e1, H1, hs1, hst1, hex⟩
      cases j with
      | zero => exact absurd hex.symm hno
      | succ j =>
      have hxj : XOk P ω (exec T j) := ih j (by omega)
      have hej : exec T (j + 1) (.loop xa) e1 H1 = match exec T j xa e1 H1 with
        | .norm e' H' => exec T j (.loop xa) e' H'
        | .ret e' H' => .ret e' H'
        | .exit id e' H' => .exit id e' H'
        | .none => .none := rfl
      rw [hej] at hex
      have hne1 : exec T j xa e1 H1 ≠ .none := by intro h0; rw [h0] at hex; exact hno hex.symm
      refine wpIn_mono (hxj hS ha hnr hst1 hne1) fun ex a' w' h => ?_
      generalize hgo : exec T j xa e1 H1 = o1 at hex h
      cases o1 with
      | none => exact absurd hex.symm hno
      | norm e2 H2 =>
        obtain ⟨rfl, ρ', h3, h4⟩ := h.elim_norm
        exact ⟨j, Nat.lt_succ_self j, by omega, ρ', e2, H2, hs1.trans h3, h4, hex⟩
      | ret e2 H2 => obtain rfl := h.elim_ret; rw [← hex]; exact h.trans hs1
      | exit id e2 H2 => obtain rfl := h.elim_exit; rw [← hex]; exact h.trans hs1
    exact hI _ rfl hne
  · -- region
    rename_i id ops d
    cases d with
    | true =>
      simp only [cond] at hc
      have hc' := hc
      unfold cRegD at hc'
      simp only [Option.bind_eq_some_iff] at hc'
      obtain ⟨l, h1, h2⟩ := hc'
      cases hd : dwOk ops (Region.before ops) && dwOk2 ops (Region.before ops) with
      | false => rw [hd] at h2; cases h2
      | true =>
        rw [hd] at h2
        simp only [cond, Option.some.injEq] at h2
        subst h2
        exact hD hcall hS hc hst hne
    | false =>
      simp only [cond, Option.bind_eq_some_iff, Option.some.injEq] at hc
      obtain ⟨⟨r, G'⟩, h1, rfl⟩ := hc
      simp only [execS, ofL_toL] at hne ⊢
      cases hrun : runOps (caller T (exec T n)) r [] e H with
      | none => rw [hrun] at hne; exact absurd rfl hne
      | ok L' e' H' =>
        refine wpIn_mono (region_wp hω hcall hS h1 hst hrun) fun ex a' w' hp => ?_
        obtain ⟨rfl, ρ', hs, _, hst'⟩ := hp
        exact Post.norm hs hst'
  · -- range over a function
    rename_i f ps as bd
    simp only [Option.bind_eq_some_iff] at hc
    obtain ⟨cf, hf, q, hq, hc⟩ := hc
    cases hps : (ps.all fun t => Nat.blt t N) with
    | false => rw [hps] at hc; cases hc
    | true =>
      rw [hps] at hc
      simp only [cond, Option.bind_eq_some_iff] at hc
      obtain ⟨xa, ha, xb, hb, hc⟩ := hc
      cases hn : noRange xa && noRange xb with
      | false => rw [hn] at hc; cases hc
      | true =>
        rw [hn] at hc
        simp only [Option.some.injEq] at hc
        subst hc
        rw [Bool.and_eq_true] at hn
        rcases hnr with rfl | h
        · exact range_wp hcall hS hf hq hps ha hb hn hst hne
        · cases h
  · simp only [Option.some.injEq] at hc; subst hc
    exact absurd rfl hne
end
end Go.Ex

