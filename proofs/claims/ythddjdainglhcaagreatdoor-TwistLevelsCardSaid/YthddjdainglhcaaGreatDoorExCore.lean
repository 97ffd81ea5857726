/- The executor: a small language of paths, cells and operations, the compiler into it from a function of the model, and two evaluators that are shown to agree. Conditions: none. -/
import GoSem.Dispatch
import GoSem.Machine.Frame
namespace Go.Ex

inductive D where
  | d0 | d1 | d2 | d3 | d4 | d5 | d6 | d7
  deriving DecidableEq, Inhabited

def D.toNat : D → Nat
  | .d0 => 0 | .d1 => 1 | .d2 => 2 | .d3 => 3 | .d4 => 4 | .d5 => 5 | .d6 => 6 | .d7 => 7

def D.of : Nat → D
  | 0 => .d0 | 1 => .d1 | 2 => .d2 | 3 => .d3 | 4 => .d4 | 5 => .d5 | 6 => .d6 | _ => .d7

/-- a number by its digits to the base 8, the lowest first -/
inductive Pth where
  | e
  | s (d : D) (p : Pth)
  deriving DecidableEq, Inhabited

def Pth.succ : Pth → Pth
  | .e => .s .d1 .e
  | .s .d0 p => .s .d1 p
  | .s .d1 p => .s .d2 p
  | .s .d2 p => .s .d3 p
  | .s .d3 p => .s .d4 p
  | .s .d4 p => .s .d5 p
  | .s .d5 p => .s .d6 p
  | .s .d6 p => .s .d7 p
  | .s .d7 p => .s .d0 p.succ

def Pth.toNat : Pth → Nat
  | .e => 0
  | .s d p => d.toNat + 8 * p.toNat

/-- the digits of n; fuel f at least n -/
def pathOf : Nat → Nat → Pth
  | 0, _ => .e
  | f + 1, n => bif Nat.beq n 0 then .e else .s (D.of (Nat.mod n 8)) (pathOf f (Nat.div n 8))

def key (t : Nat) : Pth := pathOf t t

structure C8 (β : Type) where
  c0 : β
  c1 : β
  c2 : β
  c3 : β
  c4 : β
  c5 : β
  c6 : β
  c7 : β

inductive T8 (α : Type) where
  | nil
  | node (v : α) (c : C8 (T8 α))

instance {α : Type} : Inhabited (T8 α) := ⟨.nil⟩

def sel {β : Type} (c : C8 β) : D → β
  | .d0 => c.c0 | .d1 => c.c1 | .d2 => c.c2 | .d3 => c.c3 | .d4 => c.c4 | .d5 => c.c5 | .d6 => c.c6 | .d7 => c.c7

def upd {β : Type} (c : C8 β) (x : β) : D → C8 β
  | .d0 => { c with c0 := x } | .d1 => { c with c1 := x } | .d2 => { c with c2 := x } | .d3 => { c with c3 := x }
  | .d4 => { c with c4 := x } | .d5 => { c with c5 := x } | .d6 => { c with c6 := x } | .d7 => { c with c7 := x }

def nil8 {α : Type} : C8 (T8 α) := ⟨.nil, .nil, .nil, .nil, .nil, .nil, .nil, .nil⟩

def T8.get {α : Type} (z : α) : Pth → T8 α → α
  | .e, .nil => z
  | .e, .node v _ => v
  | .s _ _, .nil => z
  | .s d p, .node _ c => T8.get z p (sel c d)

def T8.put {α : Type} (z x : α) : Pth → T8 α → T8 α
  | .e, .nil => .node x nil8
  | .e, .node _ c => .node x c
  | .s d p, .nil => .node z (upd nil8 (T8.put z x p .nil) d)
  | .s d p, .node v c => .node v (upd c (T8.put z x p (sel c d)) d)

/-- 'bad': nothing is known; as an operation's result: it is not carried out -/
inductive AVal where
  | bad
  | pnil
  | se
  | snil
  | fnil
  | mnil
  | opq (i : Nat)
  | yld (l : Pth)
  | str (s : ByteArray)
  | map (id : Pth)
  | fnv (f : Pth) (caps : List AVal)
  | tup (l : List AVal)
  | agg (l : List AVal)
  | sg (id : Pth) (off len esz : Nat)
  | sl (id : Pth) (off len cap : Nat)
  | ptr (id : Pth) (off : Nat)
  | bool (b : Bool)
  | int (k : IntKind) (n : Int)
  deriving Inhabited

/-- a place on the list of a region's own values: 0, one more -/
inductive Ix where
  | z
  | s (i : Ix)
  deriving Inhabited

inductive COpd where
  | l (i : Ix)
  | t (p : Pth)
  | k (v : AVal)
  deriving Inhabited

inductive COp where
  | bad
  | eqs (neg : Bool) (offs : List Nat) (x y : COpd)
  | cmp (cls : Nat) (op : BinOp) (x y : COpd)
  | lens (x : COpd)
  | pick (c a b : COpd)
  | build (z : List AVal) (parts : List (Nat × Nat × COpd))
  | bsl (esz len : Nat) (z : List AVal) (parts : List (Nat × COpd))
  | nilc (x : COpd)
  | un (op : UnOp) (x : COpd)
  | conv (k : IntKind) (x : COpd)
  | mkfn (f : Pth) (caps : List COpd)
  | mksl (esz bytes : Nat) (z : List AVal) (len cap : COpd)
  | slc (esz : Nat) (x : COpd) (lo hi : Option COpd)
  | fld (agg : Bool) (off sz : Nat) (x : COpd)
  | iaddrA (len esz : Nat) (x i : COpd)
  | idxA (agg : Bool) (len esz : Nat) (x i : COpd)
  | idxS (x i : COpd)
  | len (x : COpd)
  | append (esz bytes : Nat) (s x : COpd)
  | copy (esz : Nat) (d s : COpd)
  | max (xs : List COpd)
  | min (xs : List COpd)
  | extract (x : COpd) (i : Nat)
  | callv (f : COpd) (args : List COpd)
  | mkmap
  | lookup (zero : AVal) (ok : Bool) (m k : COpd)
  | mapup (m k v : COpd)
  | call (f : Pth) (args : List COpd)
  | iaddr (esz : Nat) (x i : COpd)
  | faddr (off : Nat) (x : COpd)
  | box (x : COpd)
  | store (sz : Nat) (x v : COpd)
  | load (agg : Bool) (sz : Nat) (x : COpd)
  | bin (op : BinOp) (x y : COpd)
  | move (x : COpd)
  deriving Inhabited

inductive Dst where
  | drop
  | slot (p : Pth)
  | push
  deriving Inhabited

structure CO where
  dst : Dst
  op : COp
  guard : Option (COpd × Bool)
  deriving Inhabited

/-- a region's operations in the order of the text; the frequent ones by names of their own -/
inductive Ops where
  | fin
  | gen (o : CO) (k : Ops)
  | pcv (c : IntKind) (x : COpd) (k : Ops)
  | pln (x : COpd) (k : Ops)
  | pex (x : COpd) (i : Nat) (k : Ops)
  | pca (f : Pth) (xs : List COpd) (k : Ops)
  | st (sz : Nat) (x v : COpd) (k : Ops)
  | pia (esz : Nat) (x i : COpd) (k : Ops)
  | pfa (off : Nat) (x : COpd) (k : Ops)
  | pld (agg : Bool) (sz : Nat) (x : COpd) (k : Ops)
  | sm (q : Pth) (x : COpd) (k : Ops)
  | pb (op : BinOp) (x y : COpd) (k : Ops)
  deriving Inhabited

def Ops.toL : Ops → List CO
  | .fin => []
  | .gen o k => o :: k.toL
  | .pcv c x k => ⟨.push, .conv c x, none⟩ :: k.toL
  | .pln x k => ⟨.push, .len x, none⟩ :: k.toL
  | .pex x i k => ⟨.push, .extract x i, none⟩ :: k.toL
  | .pca f xs k => ⟨.push, .call f xs, none⟩ :: k.toL
  | .st sz x v k => ⟨.drop, .store sz x v, none⟩ :: k.toL
  | .pia s x i k => ⟨.push, .iaddr s x i, none⟩ :: k.toL
  | .pfa o x k => ⟨.push, .faddr o x, none⟩ :: k.toL
  | .pld a s x k => ⟨.push, .load a s x, none⟩ :: k.toL
  | .sm q x k => ⟨.slot q, .move x, none⟩ :: k.toL
  | .pb o x y k => ⟨.push, .bin o x y, none⟩ :: k.toL

def Ops.ofL : List CO → Ops
  | [] => .fin
  | ⟨.push, .conv c x, none⟩ :: k => .pcv c x (ofL k)
  | ⟨.push, .len x, none⟩ :: k => .pln x (ofL k)
  | ⟨.push, .extract x i, none⟩ :: k => .pex x i (ofL k)
  | ⟨.push, .call f xs, none⟩ :: k => .pca f xs (ofL k)
  | ⟨.drop, .store sz x v, none⟩ :: k => .st sz x v (ofL k)
  | ⟨.push, .iaddr s x i, none⟩ :: k => .pia s x i (ofL k)
  | ⟨.push, .faddr o x, none⟩ :: k => .pfa o x (ofL k)
  | ⟨.push, .load a s x, none⟩ :: k => .pld a s x (ofL k)
  | ⟨.slot q, .move x, none⟩ :: k => .sm q x (ofL k)
  | ⟨.push, .bin o x y, none⟩ :: k => .pb o x y (ofL k)
  | o :: k => .gen o (ofL k)

/-- what a drawn region's operation is: 0 pure; 1 it reads memory, at the chain's places lo to hi; 2 it makes a block, taken in ahead of chain place hi; 3 the chain -/
structure Dw where
  kind : Nat
  lo : Nat
  hi : Nat
  deriving Inhabited

inductive CC where
  | bad
  | rangeF (f : COpd) (params : List Pth) (assign body : CC)
  | regd (ops : List (CO × Dw))
  | cond (c : COpd) (a b : CC)
  | ret
  | skip
  | block (id : Nat) (c : CC)
  | loop (c : CC)
  | exit (id : Nat)
  | regc (ops : Ops) (c : COpd) (a b : CC)
  | reg (ops : Ops)
  | seq (a b : CC)
  deriving Inhabited

inductive AObj where
  | dead
  | lp (ready : Bool) (env : T8 AVal) (params : List Pth) (assign body : CC)
  | mp (es : List (AVal × AVal))
  | ro (esz n : Nat) (dflt : List AVal) (els : T8 (List AVal))
  | arr (esz n : Nat) (dflt : List AVal) (els : T8 (List AVal))
  deriving Inhabited

structure AH where
  next : Pth
  m : T8 AObj
  deriving Inhabited

/-- an object of a result that is known beforehand; the cells lead to other such objects by names of their own -/
inductive TObj where
  | arr (esz : Nat) (rows : List (List AVal))
  | mp (es : List (AVal × AVal))
  deriving Inhabited

/-- what a function returns at arguments that lead nowhere: the tables that it reads, the objects that it makes, its result -/
structure Orc where
  args : List AVal
  ro : List (Pth × Nat × Nat × List AVal)
  objs : List (Pth × TObj)
  v : AVal
  /-- where the arguments lead somewhere: the next key, the objects ahead of the call, the next key behind it; then all keys are meant as they stand -/
  ex : Option (Pth × List (Pth × TObj) × Pth)
  deriving Inhabited

structure CFn where
  params : List (Option Pth)
  body : CC
  /-- the results: a temporary, or a cell and whether it is an aggregate, its size -/
  res : List (Pth × Option (Bool × Nat))
  /-- what is known beforehand -/
  orc : List Orc
  deriving Inhabited

def noFn : CFn := ⟨[], .bad, [], []⟩

end Go.Ex

namespace Go.Ex

/-- the cells of a value that is known to fill cells -/
def AVal.cells : AVal → List AVal
  | .agg l => l
  | .bad => []
  | .tup _ => []
  | v => [v]

def undefV : AVal := .tup []

/-! ### equality -/
def dEq : D → D → Bool
  | .d0, .d0 => true | .d1, .d1 => true | .d2, .d2 => true | .d3, .d3 => true
  | .d4, .d4 => true | .d5, .d5 => true | .d6, .d6 => true | .d7, .d7 => true
  | _, _ => false

def pthEq : Pth → Pth → Bool
  | .e, .e => true
  | .s a p, .s b q => dEq a b && pthEq p q
  | _, _ => false

def kindEq : IntKind → IntKind → Bool
  | .i64, .i64 => true | .i32, .i32 => true | .i16, .i16 => true | .i8, .i8 => true
  | .u64, .u64 => true | .u32, .u32 => true | .u16, .u16 => true | .u8, .u8 => true
  | _, _ => false

def intEq : Int → Int → Bool
  | .ofNat a, .ofNat b => Nat.beq a b
  | .negSucc a, .negSucc b => Nat.beq a b
  | _, _ => false

def intLt : Int → Int → Bool
  | .ofNat a, .ofNat b => Nat.blt a b
  | .negSucc a, .negSucc b => Nat.blt b a
  | .negSucc _, .ofNat _ => true
  | .ofNat _, .negSucc _ => false

def boolEq : Bool → Bool → Bool
  | true, b => b
  | false, b => !b

/-- equality of one-cell values, as far as it is asked -/
def AVal.eq1 : AVal → AVal → Bool
  | .bool a, .bool b => boolEq a b
  | .int k a, .int l b => kindEq k l && intEq a b
  | .ptr a m, .ptr b n => pthEq a b && Nat.beq m n
  | .pnil, .pnil => true
  | .sl a m n c, .sl b m' n' c' => pthEq a b && (Nat.beq m m' && (Nat.beq n n' && Nat.beq c c'))
  | .sg a m n c, .sg b m' n' c' => pthEq a b && (Nat.beq m m' && (Nat.beq n n' && Nat.beq c c'))
  | .snil, .snil => true
  | .fnil, .fnil => true
  | .mnil, .mnil => true
  | .map a, .map b => pthEq a b
  | _, _ => false

def eqL : List AVal → List AVal → Bool
  | [], [] => true
  | a :: l, b :: r => a.eq1 b && eqL l r
  | _, _ => false

def AVal.eqv : AVal → AVal → Bool
  | .agg l, .agg r => eqL l r
  | a, b => a.eq1 b

/-! ### integers -/
def two63 : Nat := 9223372036854775808
def two64 : Nat := 18446744073709551616
def two32 : Nat := 4294967296
def wrapN (k : IntKind) (n : Int) : Int :=
  match k, n with
  | .i64, .ofNat m => bif Nat.blt m two63 then n else k.wrap n
  | .i64, .negSucc m => bif Nat.blt m two63 then n else k.wrap n
  | .u64, .ofNat m => .ofNat (Nat.mod m two64)
  | .u32, .ofNat m => .ofNat (Nat.mod m two32)
  | _, _ => k.wrap n

def intBits (op : BinOp) (k : IntKind) (a b : Int) : AVal :=
  let x := BitVec.ofInt k.bits a
  let y := BitVec.ofInt k.bits b
  match op with
  | .and => .int k (k.wrap (x &&& y).toNat)
  | .or => .int k (k.wrap (x ||| y).toNat)
  | .xor => .int k (k.wrap (x ^^^ y).toNat)
  | .andNot => .int k (k.wrap (x &&& ~~~y).toNat)
  | _ => .bad

def isZero : Int → Bool
  | .ofNat n => Nat.beq n 0
  | .negSucc _ => false

def intBin (op : BinOp) (k : IntKind) (a b : Int) : AVal :=
  match op with
  | .add => .int k (wrapN k (Int.add a b))
  | .sub => .int k (wrapN k (Int.sub a b))
  | .mul => .int k (wrapN k (Int.mul a b))
  | .quo => bif isZero b then .bad else .int k (wrapN k (Int.tdiv a b))
  | .rem => bif isZero b then .bad else .int k (Int.tmod a b)
  | .eql => .bool (intEq a b)
  | .neq => .bool (!intEq a b)
  | .lss => .bool (intLt a b)
  | .leq => .bool (!intLt b a)
  | .gtr => .bool (intLt b a)
  | .geq => .bool (!intLt a b)
  | .and => intBits .and k a b
  | .or => intBits .or k a b
  | .xor => intBits .xor k a b
  | .andNot => intBits .andNot k a b
  | .shl => .bad
  | .shr => .bad

def intShift (op : BinOp) (k : IntKind) (a : Int) (b : Int) : AVal :=
  match b with
  | .negSucc _ => .bad
  | .ofNat m =>
    let n := Nat.min m k.bits
    match op with
    | .shl => .int k (wrapN k (Int.mul a (.ofNat (Nat.pow 2 n))))
    | .shr => .int k (Int.fdiv a (.ofNat (Nat.pow 2 n)))
    | _ => .bad

/-- equality for ==, by the class of the type: 0 bool, 1 pointers, 2 slices, 3 functions, 4 maps; none where it is not told -/
def eqlV (cls : Nat) (x y : AVal) : Option Bool :=
  match cls with
  | 0 => match x, y with
    | .bool a, .bool b => some (boolEq a b)
    | _, _ => none
  | 1 => match x, y with
    | .pnil, .pnil => some true
    | .pnil, .ptr _ _ => some false
    | .ptr _ _, .pnil => some false
    | _, _ => none
  | 2 => match x, y with
    | .snil, .snil => some true
    | .snil, .sl _ _ _ _ => some false
    | .snil, .sg _ _ _ _ => some false
    | .snil, .se => some false
    | .sl _ _ _ _, .snil => some false
    | .sg _ _ _ _, .snil => some false
    | .se, .snil => some false
    | _, _ => none
  | 3 => match x, y with
    | .fnil, .fnil => some true
    | .fnil, .fnv _ _ => some false
    | .fnv _ _, .fnil => some false
    | _, _ => none
  | 4 => match x, y with
    | .mnil, .mnil => some true
    | .mnil, .map _ => some false
    | .map _, .mnil => some false
    | _, _ => none
  | _ => none

/-- the cells at the places told are equal, looked at in that order -/
def eqCells (xs ys : List AVal) : List Nat → Option Bool
  | [] => some true
  | o :: r => match xs[o]?, ys[o]? with
    | some (.int k a), some (.int l b) => bif kindEq k l then (bif intEq a b then eqCells xs ys r else some false) else none
    | _, _ => none

def eqsV (neg : Bool) (offs : List Nat) (x y : AVal) : AVal :=
  match x, y with
  | .agg xs, .agg ys => match eqCells xs ys offs with
    | some b => .bool (bif neg then !b else b)
    | none => .bad
  | _, _ => .bad

def isShift : BinOp → Bool
  | .shl => true
  | .shr => true
  | _ => false

def ofEq (op : BinOp) (b : Option Bool) : AVal :=
  match b with
  | none => .bad
  | some b => match op with
    | .eql => .bool b
    | .neq => .bool (!b)
    | _ => .bad

def binV (op : BinOp) (x y : AVal) : AVal :=
  match x, y with
  | .int k a, .int l b => bif isShift op then intShift op k a b else bif kindEq k l then intBin op k a b else .bad
  | _, _ => .bad

def cmpV (cls : Nat) (op : BinOp) (x y : AVal) : AVal := ofEq op (eqlV cls x y)

def unV (op : UnOp) (x : AVal) : AVal :=
  match op, x with
  | .neg, .int k n => .int k (wrapN k (Int.sub 0 n))
  | .not, .bool b => .bool (!b)
  | .xor, .int k n => intBits .xor k (if k.signed then -1 else k.max) n
  | _, _ => .bad

def max2 : AVal → AVal → AVal
  | .int k a, .int l b => bif kindEq k l then .int k (bif intLt a b then b else a) else .bad
  | _, _ => .bad
def min2 : AVal → AVal → AVal
  | .int k a, .int l b => bif kindEq k l then .int k (bif intLt b a then b else a) else .bad
  | _, _ => .bad
def foldV (f : AVal → AVal → AVal) : AVal → List AVal → AVal
  | a, [] => a
  | a, b :: l => foldV f (f a b) l

/-! ### the environment -/
def getL : Ix → List AVal → AVal
  | .z, a :: _ => a
  | .s i, _ :: l => getL i l
  | _, [] => .bad

def COpd.ev (L : List AVal) (e : T8 AVal) : COpd → AVal
  | .l i => getL i L
  | .t p => e.get .bad p
  | .k v => v

def evs (L : List AVal) (e : T8 AVal) : List COpd → List AVal
  | [] => []
  | x :: l => x.ev L e :: evs L e l

def setL (L : List AVal) (d : Dst) (v : AVal) : List AVal :=
  match d with
  | .push => v :: L
  | _ => L

def setE (e : T8 AVal) (d : Dst) (v : AVal) : T8 AVal :=
  match d with
  | .slot p => e.put .bad v p
  | _ => e

/-! ### lists of cells -/
def lenIs : List AVal → Nat → Bool
  | [], n => Nat.beq n 0
  | _ :: l, n => bif Nat.beq n 0 then false else lenIs l (Nat.pred n)

/-- the first n; bad where there are not so many -/
def takeN : Nat → List AVal → Option (List AVal)
  | 0, _ => some []
  | n + 1, a :: l => match takeN n l with
    | some r => some (a :: r)
    | none => none
  | _ + 1, [] => none

def dropN : Nat → List AVal → List AVal
  | 0, l => l
  | n + 1, _ :: l => dropN n l
  | _ + 1, [] => []

/-- new in the place of what stands from the head on -/
def over : List AVal → List AVal → Option (List AVal)
  | [], l => some l
  | a :: r, _ :: l => match over r l with
    | some q => some (a :: q)
    | none => none
  | _ :: _, [] => none

def overAt : Nat → List AVal → List AVal → Option (List AVal)
  | 0, new, l => over new l
  | n + 1, new, a :: l => match overAt n new l with
    | some q => some (a :: q)
    | none => none
  | _ + 1, _, [] => none

/-! ### blocks -/
def orElse (dflt : List AVal) : List AVal → List AVal
  | [] => dflt
  | c => c

def elem (j : Nat) (dflt : List AVal) (els : T8 (List AVal)) : List AVal := orElse dflt (els.get [] (key j))

def single (agg : Bool) (l : Option (List AVal)) : AVal :=
  match l with
  | none => .bad
  | some l => bif agg then .agg l else match l with
    | [a] => a
    | _ => .bad

def cellsAt (agg : Bool) (sz esz n : Nat) (dflt : List AVal) (els : T8 (List AVal)) (off : Nat) : AVal :=
  bif Nat.blt (Nat.div off esz) n then single agg (takeN sz (dropN (Nat.mod off esz) (elem (Nat.div off esz) dflt els))) else .bad

def loadAt (H : AH) (agg : Bool) (sz : Nat) (id : Pth) (off : Nat) : AVal :=
  match H.m.get .dead id with
  | .arr esz n dflt els => cellsAt agg sz esz n dflt els off
  | .ro esz n dflt els => cellsAt agg sz esz n dflt els off
  | _ => .bad

def AH.set (H : AH) (id : Pth) (o : AObj) : AH := ⟨H.next, H.m.put .dead o id⟩

def AH.add (H : AH) (o : AObj) : AH := ⟨H.next.succ, H.m.put .dead o H.next⟩

/-- what an operation comes to -/
inductive R where
  | no
  | ok (v : AVal) (H : AH)

def storeAt (H : AH) (id : Pth) (off : Nat) (cs : List AVal) : R :=
  match H.m.get .dead id with
  | .arr esz n dflt els =>
    bif Nat.blt (Nat.div off esz) n then
      match overAt (Nat.mod off esz) cs (elem (Nat.div off esz) dflt els) with
      | some c => .ok undefV (H.set id (.arr esz n dflt (els.put [] c (key (Nat.div off esz)))))
      | none => .no
    else .no
  | _ => .no

/-- the elements of a slice -/
def elemsFrom (dflt : List AVal) (els : T8 (List AVal)) : Nat → Nat → List (List AVal)
  | _, 0 => []
  | j, n + 1 => elem j dflt els :: elemsFrom dflt els (Nat.succ j) n

def sliceElems (H : AH) (esz : Nat) (id : Pth) (off len : Nat) : Option (List (List AVal)) :=
  match H.m.get .dead id with
  | .arr esz' n dflt els =>
    bif Nat.beq esz esz' && (Nat.beq (Nat.mod off esz) 0 && Nat.ble (Nat.add (Nat.div off esz) len) n) then some (elemsFrom dflt els (Nat.div off esz) len) else none
  | _ => none

def elemsOf (H : AH) (esz : Nat) : AVal → Option (List (List AVal))
  | .snil => some []
  | .se => some []
  | .sl id off len _ => bif Nat.beq len 0 then some [] else sliceElems H esz id off len
  | .sg id off len _ => bif Nat.beq len 0 then some [] else sliceElems H esz id off len
  | _ => none

def putEls : Nat → List (List AVal) → T8 (List AVal) → T8 (List AVal)
  | _, [], t => t
  | j, c :: l, t => putEls (Nat.succ j) l (t.put [] c (key j))

def lenL : List (List AVal) → Nat
  | [] => 0
  | _ :: l => Nat.succ (lenL l)

/-- a block that begins with what lies at off, len elements, and goes on with new -/
def grown (esz : Nat) (dflt : List AVal) (els : T8 (List AVal)) (off len : Nat) (new : List (List AVal)) : AObj :=
  bif Nat.beq off 0 then .arr esz (Nat.add len (lenL new)) dflt (putEls len new els)
  else .arr esz (Nat.add len (lenL new)) dflt (putEls len new (putEls 0 (elemsFrom dflt els (Nat.div off esz) len) .nil))

def small (need bytes : Nat) : Bool := Nat.blt (Nat.mul need bytes) 1099511627776 && (Nat.blt bytes 1048576 && Nat.blt need 1099511627776)

def appendV (H : AH) (esz bytes : Nat) (s : AVal) (new : List (List AVal)) : R :=
  let n := lenL new
  bif Nat.beq n 0 then
    match s with
    | .snil => .ok s H
    | .se => .ok s H
    | .sg _ _ _ _ => .ok s H
    | .sl _ _ len cap => bif Nat.ble len cap then .ok s H else .no
    | _ => .no
  else
  bif Nat.beq esz 0 then .no else
  match s with
  | .snil => bif small n bytes then .ok (.sg H.next 0 n esz) (H.add (.arr esz n [] (putEls 0 new .nil))) else .no
  | .sl id off len cap =>
    match H.m.get .dead id with
    | .arr esz' m dflt els =>
      bif Nat.beq esz esz' && (Nat.beq (Nat.mod off esz) 0 && Nat.ble (Nat.add (Nat.div off esz) len) m) then
        bif Nat.ble (Nat.add len n) cap then
          bif Nat.ble (Nat.add (Nat.add (Nat.div off esz) len) n) m then .ok (.sl id off (Nat.add len n) cap) (H.set id (.arr esz m dflt (putEls (Nat.add (Nat.div off esz) len) new els))) else .no
        else bif small (Nat.add len n) bytes then .ok (.sg H.next 0 (Nat.add len n) esz) (H.add (grown esz dflt els off len new)) else .no
      else .no
    | _ => .no
  | .sg id off len ez =>
    match H.m.get .dead id with
    | .arr esz' m dflt els =>
      bif Nat.beq esz esz' && (Nat.beq esz ez && (Nat.beq (Nat.mod off esz) 0 && (Nat.ble (Nat.add (Nat.div off esz) len) m && small (Nat.add len n) bytes))) then
        .ok (.sg H.next 0 (Nat.add len n) esz) ((H.set id .dead).add (grown esz dflt els off len new))
      else .no
    | _ => .no
  | _ => .no

def takeL : Nat → List (List AVal) → List (List AVal)
  | 0, _ => []
  | _ + 1, [] => []
  | n + 1, a :: l => a :: takeL n l

def lenV : AVal → Option Nat
  | .snil => some 0
  | .se => some 0
  | .sl _ _ n _ => some n
  | .sg _ _ n _ => some n
  | _ => none

def writeEls (H : AH) (esz : Nat) (id : Pth) (off : Nat) (new : List (List AVal)) (v : AVal) : R :=
  match H.m.get .dead id with
  | .arr esz' m dflt els =>
    bif Nat.beq esz esz' && (Nat.beq (Nat.mod off esz) 0 && Nat.ble (Nat.add (Nat.div off esz) (lenL new)) m) then .ok v (H.set id (.arr esz m dflt (putEls (Nat.div off esz) new els))) else .no
  | _ => .no

def copyV (H : AH) (esz : Nat) (d : AVal) (new : List (List AVal)) : R :=
  match lenV d with
  | none => .no
  | some dl =>
    let c := takeL dl new
    bif Nat.beq (lenL c) 0 then .ok (.int .i64 (.ofNat 0)) H else
    bif Nat.beq esz 0 then .no else
    match d with
    | .sl id off _ _ => writeEls H esz id off c (.int .i64 (.ofNat (lenL c)))
    | .sg id off _ _ => writeEls H esz id off c (.int .i64 (.ofNat (lenL c)))
    | _ => .no

def natOf : AVal → Option Nat
  | .int _ (.ofNat m) => some m
  | _ => none

def slcV (esz : Nat) (x : AVal) (lo : Nat) (hi : Option Nat) : AVal :=
  match x with
  | .sl id off len cap =>
    let h := hi.getD len
    bif Nat.ble lo h && Nat.ble h cap then .sl id (bif Nat.beq cap lo then off else Nat.add off (Nat.mul lo esz)) (Nat.sub h lo) (Nat.sub cap lo) else .bad
  | .sg id off len ez =>
    let h := hi.getD len
    bif Nat.beq esz ez && (Nat.ble lo h && Nat.ble h len) then
      bif Nat.blt lo len then .sg id (Nat.add off (Nat.mul lo esz)) (Nat.sub h lo) ez
      else bif Nat.beq lo 0 then .sg id off 0 ez else .se
    else .bad
  | .snil => bif Nat.beq lo 0 && Nat.beq (hi.getD 0) 0 then .snil else .bad
  | .se => bif Nat.beq lo 0 && Nat.beq (hi.getD 0) 0 then .se else .bad
  | _ => .bad

def slcO (esz : Nat) (x : AVal) (lo hi : Option AVal) : AVal :=
  match lo, hi with
  | none, none => slcV esz x 0 none
  | some l, none => match natOf l with
    | some l => slcV esz x l none
    | none => .bad
  | none, some h => match natOf h with
    | some h => slcV esz x 0 (some h)
    | none => .bad
  | some l, some h => match natOf l, natOf h with
    | some l, some h => slcV esz x l (some h)
    | _, _ => .bad

def iaddrV (esz : Nat) (x i : AVal) : AVal :=
  match i with
  | .int _ (.ofNat j) => match x with
    | .sl id off len _ => bif Nat.blt j len then .ptr id (Nat.add off (Nat.mul j esz)) else .bad
    | .sg id off len _ => bif Nat.blt j len then .ptr id (Nat.add off (Nat.mul j esz)) else .bad
    | _ => .bad
  | _ => .bad

def iaddrAV (len esz : Nat) (x i : AVal) : AVal :=
  match i with
  | .int _ (.ofNat j) => match x with
    | .ptr id off => bif Nat.blt j len then .ptr id (Nat.add off (Nat.mul j esz)) else .bad
    | _ => .bad
  | _ => .bad

def idxAV (agg : Bool) (len esz : Nat) (x i : AVal) : AVal :=
  match i with
  | .int _ (.ofNat j) => match x with
    | .agg l => bif Nat.blt j len then single agg (takeN esz (dropN (Nat.mul j esz) l)) else .bad
    | _ => .bad
  | _ => .bad

def idxSV (x i : AVal) : AVal :=
  match i with
  | .int _ (.ofNat j) => match x with
    | .str s => match s.data.toList[j]? with
      | some b => .int .u8 (.ofNat b.toNat)
      | none => .bad
    | _ => .bad
  | _ => .bad

def fldV (agg : Bool) (off sz : Nat) (x : AVal) : AVal :=
  match x with
  | .agg l => single agg (takeN sz (dropN off l))
  | _ => .bad

def faddrV (off : Nat) (x : AVal) : AVal :=
  match x with
  | .ptr id o => .ptr id (Nat.add o off)
  | _ => .bad

def nilcV (x : AVal) : AVal :=
  match x with
  | .ptr id off => .ptr id off
  | .fnv f c => .fnv f c
  | _ => .bad

def convV (k : IntKind) (x : AVal) : AVal :=
  match x with
  | .int _ n => .int k (wrapN k n)
  | _ => .bad

def lenOf (x : AVal) : AVal :=
  match lenV x with
  | some n => .int .i64 (.ofNat n)
  | none => .bad

def lensOf (x : AVal) : AVal :=
  match x with
  | .str s => .int .i64 (.ofNat s.size)
  | _ => .bad

def extractV (x : AVal) (i : Nat) : AVal :=
  match x with
  | .tup l => match l[i]? with
    | some v => v
    | none => .bad
  | _ => .bad

def pickV (c a b : AVal) : AVal :=
  match c with
  | .bool t => bif t then a else b
  | _ => .bad

def buildV (L : List AVal) (e : T8 AVal) : List AVal → List (Nat × Nat × COpd) → AVal
  | z, [] => .agg z
  | z, (off, sz, x) :: r => bif Nat.blt 0 sz && lenIs (x.ev L e).cells sz then match overAt off (x.ev L e).cells z with
    | some z' => buildV L e z' r
    | none => .bad
    else .bad

def maxV : List AVal → AVal
  | [] => .bad
  | a :: r => foldV max2 a r
def minV : List AVal → AVal
  | [] => .bad
  | a :: r => foldV min2 a r

def findK (k : AVal) : List (AVal × AVal) → Option (Option AVal)
  | [] => some none
  | (k', v) :: r => match k, k' with
    | .int a m, .int b n => bif kindEq a b then (bif intEq m n then some (some v) else findK k r) else none
    | _, _ => none

def setK (k v : AVal) : List (AVal × AVal) → List (AVal × AVal)
  | [] => [(k, v)]
  | (k', v') :: r => bif k.eq1 k' then (k, v) :: r else (k', v') :: setK k v r

def lookupV (H : AH) (zero : AVal) (ok : Bool) (m k : AVal) : AVal :=
  match m with
  | .map id => match H.m.get .dead id with
    | .mp es => match findK k es with
      | some (some v) => bif ok then .tup [v, .bool true] else v
      | some none => bif ok then .tup [zero, .bool false] else zero
      | none => .bad
    | _ => .bad
  | _ => .bad

def loadV (H : AH) (agg : Bool) (sz : Nat) (x : AVal) : AVal :=
  match x with
  | .ptr id off => loadAt H agg sz id off
  | _ => .bad

/-- the operations that change no memory and call nothing -/
def pureV (op : COp) (L : List AVal) (e : T8 AVal) (H : AH) : AVal :=
  match op with
  | .move x => x.ev L e
  | .bin op x y => binV op (x.ev L e) (y.ev L e)
  | .load agg sz x => loadV H agg sz (x.ev L e)
  | .faddr off x => faddrV off (x.ev L e)
  | .iaddr esz x i => iaddrV esz (x.ev L e) (i.ev L e)
  | .extract x i => extractV (x.ev L e) i
  | .len x => lenOf (x.ev L e)
  | .conv k x => convV k (x.ev L e)
  | .pick c a b => pickV (c.ev L e) (a.ev L e) (b.ev L e)
  | .build z parts => buildV L e z parts
  | .nilc x => nilcV (x.ev L e)
  | .un op x => unV op (x.ev L e)
  | .mkfn f caps => .fnv f (evs L e caps)
  | .slc esz x lo hi => slcO esz (x.ev L e) (lo.map (·.ev L e)) (hi.map (·.ev L e))
  | .fld agg off sz x => fldV agg off sz (x.ev L e)
  | .iaddrA len esz x i => iaddrAV len esz (x.ev L e) (i.ev L e)
  | .idxA agg len esz x i => idxAV agg len esz (x.ev L e) (i.ev L e)
  | .idxS x i => idxSV (x.ev L e) (i.ev L e)
  | .eqs neg offs x y => eqsV neg offs (x.ev L e) (y.ev L e)
  | .cmp cls op x y => cmpV cls op (x.ev L e) (y.ev L e)
  | .lens x => lensOf (x.ev L e)
  | .max xs => maxV (evs L e xs)
  | .min xs => minV (evs L e xs)
  | .lookup zero ok m k => lookupV H zero ok (m.ev L e) (k.ev L e)
  | _ => .bad

def bslV (L : List AVal) (e : T8 AVal) (esz : Nat) : T8 (List AVal) → List (Nat × COpd) → Option (T8 (List AVal))
  | t, [] => some t
  | t, (j, x) :: r => bif Nat.blt 0 esz && lenIs (x.ev L e).cells esz then bslV L e esz (t.put [] (x.ev L e).cells (key j)) r else none

def lenN : List AVal → Nat
  | [] => 0
  | _ :: l => Nat.succ (lenN l)

def boxV (v : AVal) (id : Pth) : Option (AObj × AVal) :=
  match v.cells with
  | [] => none
  | c => some (.arr (lenN c) 1 c .nil, .ptr id 0)

/-- a block that an operation makes, and the value that leads to it -/
def mkBlock (L : List AVal) (e : T8 AVal) (op : COp) (id : Pth) : Option (AObj × AVal) :=
  match op with
  | .box x => boxV (x.ev L e) id
  | .bsl esz len z parts => match bslV L e esz .nil parts with
    | some els => some (.arr esz len z els, .sl id 0 len len)
    | none => none
  | .mksl esz bytes z l c => match natOf (l.ev L e), natOf (c.ev L e) with
    | some len, some cap => bif Nat.ble len cap && small cap bytes then some (.arr esz cap z .nil, .sl id 0 len cap) else none
    | _, _ => none
  | .mkmap => some (.mp [], .map id)
  | _ => none

def mkR (H : AH) (r : Option (AObj × AVal)) : R :=
  match r with
  | some (o, v) => .ok v (H.add o)
  | none => .no

def notBad (v : AVal) (H : AH) : R :=
  match v with
  | .bad => .no
  | v => .ok v H

/-- a caller: function, arguments, heap -/
def Caller : Type := AVal → List AVal → AH → R

def storeV (H : AH) (sz : Nat) (x u : AVal) : R :=
  match x with
  | .ptr id off => bif Nat.blt 0 sz && lenIs u.cells sz then storeAt H id off u.cells else .no
  | _ => .no

def mapupV (H : AH) (m k v : AVal) : R :=
  match m with
  | .map id => match H.m.get .dead id with
    | .mp es => match findK k es with
      | some _ => .ok undefV (H.set id (.mp (setK k v es)))
      | none => .no
    | _ => .no
  | _ => .no

def doOp (call : Caller) (op : COp) (L : List AVal) (e : T8 AVal) (H : AH) : R :=
  match op with
  | .store sz x v => storeV H sz (x.ev L e) (v.ev L e)
  | .call f args => call (.fnv f []) (evs L e args) H
  | .callv f args => call (f.ev L e) (evs L e args) H
  | .box x => mkR H (mkBlock L e (.box x) H.next)
  | .bsl a b c d => mkR H (mkBlock L e (.bsl a b c d) H.next)
  | .mksl a b c d k => mkR H (mkBlock L e (.mksl a b c d k) H.next)
  | .mkmap => mkR H (mkBlock L e .mkmap H.next)
  | .append esz bytes s x => match elemsOf H esz (x.ev L e) with
    | some new => appendV H esz bytes (s.ev L e) new
    | none => .no
  | .copy esz d s => match elemsOf H esz (s.ev L e) with
    | some new => copyV H esz (d.ev L e) new
    | none => .no
  | .mapup m k v => mapupV H (m.ev L e) (k.ev L e) (v.ev L e)
  | op => notBad (pureV op L e H) H

inductive Out where
  | none
  | ret (e : T8 AVal) (H : AH)
  | exit (id : Nat) (e : T8 AVal) (H : AH)
  | norm (e : T8 AVal) (H : AH)
  deriving Inhabited

inductive Want where
  | no
  | skip
  | go

/-- is the operation carried out? -/
def wants (L : List AVal) (e : T8 AVal) : Option (COpd × Bool) → Want
  | none => .go
  | some (x, b) => match x.ev L e with
    | .bool c => bif boolEq c b then .go else .skip
    | .tup [] => .skip
    | _ => .no

inductive OutL where
  | none
  | ok (L : List AVal) (e : T8 AVal) (H : AH)

def runOps (call : Caller) : List CO → List AVal → T8 AVal → AH → OutL
  | [], L, e, H => .ok L e H
  | o :: l, L, e, H =>
    match wants L e o.guard with
    | .go => match doOp call o.op L e H with
      | .ok v H' => runOps call l (setL L o.dst v) (setE e o.dst v) H'
      | .no => .none
    | .skip => runOps call l (setL L o.dst undefV) (setE e o.dst undefV) H
    | .no => .none

/-! ### a region that draws its order -/
structure Pend where
  hi : Nat
  id : Pth
  obj : AObj

structure Rd where
  lo : Nat
  hi : Nat
  op : COp
  val : AVal

def absorb (s : Nat) : List Pend → AH → AH
  | [], H => H
  | p :: r, H => bif Nat.beq p.hi s then absorb s r (H.set p.id p.obj) else absorb s r H

def keepP (s : Nat) : List Pend → List Pend
  | [] => []
  | p :: r => bif Nat.beq p.hi s then keepP s r else p :: keepP s r

def absorbAll : List Pend → AH → AH
  | [], H => H
  | p :: r, H => absorbAll r (H.set p.id p.obj)

def reserve : List (CO × Dw) → AH → AH
  | [], H => H
  | (_, d) :: l, H => bif Nat.beq d.kind 2 then reserve l ⟨H.next.succ, H.m⟩ else reserve l H

/-- does a read give the same at the places lo to hi of the chain? heaps: the newest first, s of them behind the head -/
def checkRd (r : Rd) : List AH → Nat → Bool
  | [], _ => true
  | H :: l, s => (bif Nat.ble r.lo s && Nat.ble s r.hi then (pureV r.op [] .nil H).eqv r.val else true) && checkRd r l (Nat.pred s)

def checkRds (hs : List AH) (s : Nat) : List Rd → Bool
  | [] => true
  | r :: l => checkRd r hs s && checkRds hs s l

/-- the read with its operand's value in place -/
def fixRd (e : T8 AVal) : COp → COp
  | .load agg sz x => .load agg sz (.k (x.ev [] e))
  | .lookup z ok m k => .lookup z ok (.k (m.ev [] e)) (.k (k.ev [] e))
  | _ => .bad

def runD (call : Caller) : List (CO × Dw) → T8 AVal → AH → Pth → Nat → List Pend → List AH → List Rd → Out
  | [], e, H, _, s, pend, hs, rds => bif checkRds hs s rds then .norm e (absorbAll pend H) else .none
  | (o, d) :: l, e, H, ids, s, pend, hs, rds =>
    match wants [] e o.guard with
    | .no => .none
    | .skip =>
      bif Nat.beq d.kind 3 then runD call l (setE e o.dst undefV) (absorb s pend H) ids (Nat.succ s) (keepP s pend) (absorb s pend H :: hs) rds
      else runD call l (setE e o.dst undefV) H ids s pend hs rds
    | .go =>
      match d.kind with
      | 0 => match notBad (pureV o.op [] e ⟨.e, .nil⟩) H with
        | .ok v _ => runD call l (setE e o.dst v) H ids s pend hs rds
        | .no => .none
      | 1 => match notBad (pureV o.op [] e H) H with
        | .ok v _ => runD call l (setE e o.dst v) H ids s pend hs (bif Nat.beq d.lo d.hi then rds else ⟨d.lo, d.hi, fixRd e o.op, v⟩ :: rds)
        | .no => .none
      | 2 => match mkBlock [] e o.op ids with
        | some (ob, v) => runD call l (setE e o.dst v) H ids.succ s (⟨d.hi, ids, ob⟩ :: pend) hs rds
        | none => .none
      | _ => match doOp call o.op [] e (absorb s pend H) with
        | .ok v H' => runD call l (setE e o.dst v) H' ids (Nat.succ s) (keepP s pend) (H' :: hs) rds
        | .no => .none

def mkEnv : List (Option Pth) → List AVal → T8 AVal → Option (T8 AVal)
  | [], [], e => some e
  | some p :: ps, v :: vs, e => mkEnv ps vs (e.put .bad v p)
  | none :: ps, _ :: vs, e => mkEnv ps vs e
  | [], _ :: _, _ => none
  | some _ :: _, [], _ => none
  | none :: _, [], _ => none

def resultsV (H : AH) (e : T8 AVal) : List (Pth × Option (Bool × Nat)) → List AVal
  | [] => []
  | (p, none) :: r => e.get .bad p :: resultsV H e r
  | (p, some (agg, sz)) :: r => loadV H agg sz (e.get .bad p) :: resultsV H e r

def anyBad : List AVal → Bool
  | [] => false
  | .bad :: _ => true
  | _ :: l => anyBad l

def tupOf : List AVal → AVal
  | [v] => v
  | vs => .tup vs

def result (H : AH) (e : T8 AVal) (rs : List (Pth × Option (Bool × Nat))) : R :=
  let vs := resultsV H e rs
  bif anyBad vs then .no else .ok (tupOf vs) H

def app : List AVal → List AVal → List AVal
  | [], r => r
  | a :: l, r => a :: app l r

def finish (fn : CFn) : Out → R
  | .norm e' H' => result H' e' fn.res
  | .ret e' H' => result H' e' fn.res
  | _ => .no

/-! ### results that are known beforehand -/
def eqVs : List AVal → List AVal → Bool
  | [], [] => true
  | a :: l, b :: r => a.eqv b && eqVs l r
  | _, _ => false
def eqR : AVal → AVal → Bool
  | .tup l, .tup r => eqVs l r
  | a, b => a.eqv b

def lk : List (Pth × Pth) → Pth → Option Pth
  | [], _ => none
  | (c, a) :: l, q => bif pthEq c q then some a else lk l q

def ren1 (θ : List (Pth × Pth)) : AVal → AVal
  | .ptr id o => match lk θ id with
    | some a => .ptr a o
    | none => .bad
  | .sl id o l c => match lk θ id with
    | some a => .sl a o l c
    | none => .bad
  | .sg id o l e => match lk θ id with
    | some a => .sg a o l e
    | none => .bad
  | .map id => match lk θ id with
    | some a => .map a
    | none => .bad
  | .yld _ => .bad
  | .fnv f [] => .fnv f []
  | .fnv _ (_ :: _) => .bad
  | .tup _ => .bad
  | .agg _ => .bad
  | .opq _ => .bad
  | v => v
def ren1s (θ : List (Pth × Pth)) : List AVal → List AVal
  | [] => []
  | a :: l => ren1 θ a :: ren1s θ l
def ren2 (θ : List (Pth × Pth)) : AVal → AVal
  | .agg l => .agg (ren1s θ l)
  | v => ren1 θ v
def ren2s (θ : List (Pth × Pth)) : List AVal → List AVal
  | [] => []
  | a :: l => ren2 θ a :: ren2s θ l
def ren3 (θ : List (Pth × Pth)) : AVal → AVal
  | .tup l => .tup (ren2s θ l)
  | v => ren2 θ v

def treeRows (θ : List (Pth × Pth)) : Nat → List (List AVal) → T8 (List AVal) → T8 (List AVal)
  | _, [], t => t
  | j, r :: l, t => treeRows θ (Nat.succ j) l (t.put [] (ren1s θ r) (key j))
def renPairs (θ : List (Pth × Pth)) : List (AVal × AVal) → List (AVal × AVal)
  | [] => []
  | (a, b) :: l => (ren1 θ a, ren1 θ b) :: renPairs θ l
def lenR : List (List AVal) → Nat
  | [] => 0
  | _ :: l => Nat.succ (lenR l)
def instO (θ : List (Pth × Pth)) : TObj → AObj
  | .arr esz rows => .arr esz (lenR rows) [] (treeRows θ 0 rows .nil)
  | .mp es => .mp (renPairs θ es)
def mkIds : List (Pth × TObj) → Pth → List (Pth × Pth)
  | [], _ => []
  | (c, _) :: r, p => (c, p) :: mkIds r p.succ
def addAll (θ : List (Pth × Pth)) : List (Pth × TObj) → AH → AH
  | [], H => H
  | (_, t) :: r, H => addAll θ r (H.add (instO θ t))
def hasRo (H : AH) : List (Pth × Nat × Nat × List AVal) → Bool
  | [] => true
  | (k, e, n, d) :: r => (match H.m.get .dead k with
    | .ro e' n' d' .nil => Nat.beq e e' && (Nat.beq n n' && eqL d d')
    | _ => false) && hasRo H r
def tree0 : Nat → List (List AVal) → T8 (List AVal) → T8 (List AVal)
  | _, [], t => t
  | j, r :: l, t => tree0 (Nat.succ j) l (t.put [] r (key j))
def obj0 : TObj → AObj
  | .arr esz rows => .arr esz (lenR rows) [] (tree0 0 rows .nil)
  | .mp es => .mp es
def putObjs : List (Pth × TObj) → T8 AObj → T8 AObj
  | [], m => m
  | (c, t) :: r, m => putObjs r (m.put .dead (obj0 t) c)

/-! is a result what it is said to be? -/
def rowsEq (d : List AVal) (els : T8 (List AVal)) : Nat → List (List AVal) → Bool
  | _, [] => true
  | j, r :: l => eqL (elem j d els) r && rowsEq d els (Nat.succ j) l
def pairsEq : List (AVal × AVal) → List (AVal × AVal) → Bool
  | [], [] => true
  | (a, b) :: l, (c, d) :: r => (a.eq1 c && b.eq1 d) && pairsEq l r
  | _, _ => false
def tobjEq : AObj → TObj → Bool
  | .arr esz n d els, .arr esz' rows => Nat.beq esz esz' && (Nat.beq n (lenR rows) && rowsEq d els 0 rows)
  | .mp es, .mp es' => pairsEq es es'
  | _, _ => false
def hasObjs (H : AH) : List (Pth × TObj) → Bool
  | [] => true
  | (c, t) :: r => tobjEq (H.m.get .dead c) t && hasObjs H r

def fits (o : Orc) (args : List AVal) (H : AH) : Bool :=
  eqVs args o.args && (hasRo H o.ro && match o.ex with
    | none => true
    | some (p, pre, _) => pthEq H.next p && hasObjs H pre)
def give (o : Orc) (H : AH) : R :=
  match o.ex with
  | none => .ok (ren3 (mkIds o.objs H.next) o.v) (addAll (mkIds o.objs H.next) o.objs H)
  | some (_, _, p') => .ok o.v ⟨p', putObjs o.objs H.m⟩
def useOrc : List Orc → List AVal → AH → R
  | [], _, _ => .no
  | o :: l, args, H => bif fits o args H then give o H else useOrc l args H

section
variable (F : T8 CFn)

/-- what calls in a level: x runs what is below -/
def caller (x : CC → T8 AVal → AH → Out) : Caller := fun g args H =>
  match g with
  | .fnv f caps =>
    let fn := F.get noFn f
    match useOrc fn.orc (app args caps) H with
    | .ok v H' => .ok v H'
    | .no => match mkEnv fn.params (app args caps) .nil with
      | some e0 => finish fn (x fn.body e0 H)
      | none => .no
  | .yld l => match H.m.get .dead l with
    | .lp true env ps assign body =>
      match mkEnv (ps.map some) args env with
      | some e1 => match x assign e1 H with
        | .norm e2 H2 => match H2.m.get .dead l with
          | .lp true env2 ps2 as2 bd2 => match x body e2 (H2.set l (.lp false env2 ps2 as2 bd2)) with
            | .norm _ H3 => match H3.m.get .dead l with
              | .lp false env3 ps3 as3 bd3 => .ok (.bool true) (H3.set l (.lp true env3 ps3 as3 bd3))
              | _ => .no
            | _ => .no
          | _ => .no
        | _ => .no
      | none => .no
    | _ => .no
  | _ => .no

def execS (x : CC → T8 AVal → AH → Out) (c : CC) (e : T8 AVal) (H : AH) : Out :=
  match c with
  | .skip => .norm e H
  | .ret => .ret e H
  | .exit id => .exit id e H
  | .bad => .none
  | .seq a b => match x a e H with
    | .norm e' H' => x b e' H'
    | .ret e' H' => .ret e' H'
    | .exit id e' H' => .exit id e' H'
    | .none => .none
  | .cond c a b => match c.ev [] e with
    | .bool t => bif t then x a e H else x b e H
    | _ => .none
  | .block id b => match x b e H with
    | .exit id' e' H' => bif Nat.beq id id' then .norm e' H' else .exit id' e' H'
    | .norm e' H' => .norm e' H'
    | .ret e' H' => .ret e' H'
    | .none => .none
  | .loop b => match x b e H with
    | .norm e' H' => x (.loop b) e' H'
    | .ret e' H' => .ret e' H'
    | .exit id e' H' => .exit id e' H'
    | .none => .none
  | .reg ops => match runOps (caller F x) ops.toL [] e H with
    | .ok _ e' H' => .norm e' H'
    | .none => .none
  | .regc ops c a b => match runOps (caller F x) ops.toL [] e H with
    | .ok L e' H' => match c.ev L e' with
      | .bool t => bif t then x a e' H' else x b e' H'
      | _ => .none
    | .none => .none
  | .regd ops => runD (caller F x) ops e (reserve ops H) H.next 0 [] [reserve ops H] []
  | .rangeF f ps assign body =>
    match f.ev [] e with
    | .fnv g caps =>
      match caller F x (.fnv g caps) [.yld H.next] (H.add (.lp true e ps assign body)) with
      | .ok _ H' => match H'.m.get .dead H.next with
        | .lp true _ _ _ _ => .norm e (H'.set H.next .dead)
        | _ => .none
      | .no => .none
    | _ => .none

def exec : Nat → CC → T8 AVal → AH → Out
  | 0 => fun _ _ _ => .none
  | n + 1 => execS F (exec n)

def callF (n : Nat) (f : Pth) (args : List AVal) (H : AH) : R := caller F (exec F n) (.fnv f []) args H
end

/-! ### is a result what it is said to be? -/
def isRes (o : Orc) : R → Bool
  | .ok v H => eqR v o.v && (hasObjs H o.objs && match o.ex with
    | none => true
    | some (_, _, p') => pthEq H.next p')
  | .no => false
/-- the heap that holds the tables alone -/
def roHeap (next : Pth) : List (Pth × Nat × Nat × List AVal) → AH
  | [] => ⟨next, .nil⟩
  | (k, e, n, d) :: r => (roHeap next r).set k (.ro e n d .nil)
/-- the heap from which a result is told -/
def preHeap (next : Pth) (o : Orc) : AH :=
  match o.ex with
  | none => roHeap next o.ro
  | some (p, pre, _) => ⟨p, putObjs pre (roHeap p o.ro).m⟩

end Go.Ex

namespace Go.Ex

def scalarOf : Value → Option AVal
  | .bool b => some (.bool b)
  | .int k n => some (.int k n)
  | .pointer none => some .pnil
  | .slice none 0 0 => some .snil
  | .string s => some (.str s)
  | .nilFunc => some .fnil
  | .map none => some .mnil
  | _ => none

def scalars : List Value → Option (List AVal)
  | [] => some []
  | v :: l => (scalarOf v).bind fun a => (scalars l).bind fun r => some (a :: r)

def ofValue : Value → Option AVal
  | .agg cs => (scalars cs.toList).map .agg
  | v => scalarOf v

/-- the temporaries that are kept in the environment, each with its place -/
def Slots : Type := List (Nat × Pth)

def look : List (Nat × Pth) → Nat → Option Pth
  | [], _ => none
  | (t, p) :: l, u => bif Nat.beq t u then some p else look l u

/-- where a region's own temporary is found: on the list, at a height from its bottom; or it is what an operand outside is -/
inductive Src where
  | lev (n : Nat)
  | cp (x : COpd)

/-- what is known of the temporaries in a region: each with its place; how long the list is -/
structure Ctx where
  g : List (Nat × Src)
  m : Nat

def ixN : Nat → Ix
  | 0 => .z
  | n + 1 => .s (ixN n)

def Src.opd (m : Nat) : Src → COpd
  | .lev n => .l (ixN (m - 1 - n))
  | .cp x => x

def lookG : List (Nat × Src) → Nat → Option Src
  | [], _ => none
  | (t, s) :: l, u => bif Nat.beq t u then some s else lookG l u

def isSlot (p : Pth) : Src → Bool
  | .cp (.t q) => pthEq p q
  | _ => false

/-- what stays known when the temporary t, at the place q if it has one, is written -/
def forget (t : Nat) (q : Option Pth) (l : List (Nat × Src)) : List (Nat × Src) :=
  l.filter fun (u, s) => !(Nat.beq t u) && match q with
    | none => true
    | some p => !isSlot p s

section
variable (P : Program) (N : Nat) (S : List (Nat × Pth)) (A : List Nat)

def cOpd (G : Ctx) : Operand → Option COpd
  | .tmp t => bif Nat.blt t N then match lookG G.g t with
    | some s => some (s.opd G.m)
    | none => (look S t).map .t
    else none
  | .const v => (ofValue v).map .k
  | .global g => bif Nat.blt g P.globals.size then some (.k (.ptr (key g) 0)) else none
  | .func f => some (.k (.fnv (key f) []))

def cOpds (G : Ctx) : List Operand → Option (List COpd)
  | [] => some []
  | x :: l => (cOpd P N S G x).bind fun a => (cOpds G l).bind fun r => some (a :: r)

def tSize (t : TypeId) : Option Nat := (P.info? t).map (·.size)
def tBytes (t : TypeId) : Option Nat := (P.info? t).map (·.bytes)
def tZero (t : TypeId) : Option AVal := ((P.info? t).bind (·.zero)).bind ofValue
def tAgg (t : TypeId) : Option Bool := (P.underlying t).map fun | .struct _ | .array _ _ => true | _ => false
def tField (s : TypeId) (i : Nat) : Option Field := match P.underlying s with
  | some (.struct fs) => fs[i]?
  | _ => none
def tElem (t : TypeId) : Option TypeId := match P.underlying t with
  | some (.slice e) => some e
  | _ => none
def tArr (t : TypeId) : Option (Nat × TypeId) := match P.underlying t with
  | some (.array n e) => some (n, e)
  | _ => none
def tPtrArr (t : TypeId) : Option (Nat × TypeId) := match P.underlying t with
  | some (.pointer a) => tArr P a
  | _ => none

/-- the places of a struct's fields in the order in which == looks at them; integers alone -/
def flatF : List Field → Option (List Nat)
  | [] => some []
  | f :: r => bif f.name == "_" then none else match P.underlying f.type with
    | some (.int _) => (flatF r).map (f.offset :: ·)
    | _ => none

def cParts (G : Ctx) (fs : Nat → Option (Nat × Nat)) : List (Nat × Operand) → Option (List (Nat × Nat × COpd))
  | [] => some []
  | (i, x) :: l => (fs i).bind fun (o, s) => (cOpd P N S G x).bind fun a => (cParts G fs l).bind fun r => some ((o, s, a) :: r)

def cPartsS (G : Ctx) (len : Nat) : List (Nat × Operand) → Option (List (Nat × COpd))
  | [] => some []
  | (i, x) :: l => bif Nat.blt i len then (cOpd P N S G x).bind fun a => (cPartsS G len l).bind fun r => some ((i, a) :: r) else none

def cOpt (G : Ctx) : Option Operand → Option (Option COpd)
  | none => some none
  | some x => (cOpd P N S G x).map some

def cCall (G : Ctx) (c : Call) : Option COp :=
  match c.callee with
  | .value (.func f) => (cOpds P N S G c.args.toList).map (.call (key f))
  | .value g => (cOpd P N S G g).bind fun g => (cOpds P N S G c.args.toList).map (.callv g)
  | .invoke _ _ => none
  | .builtin b =>
    match b, c.args.toList, c.argTypes.toList with
    | .len, [x], [t] => match P.underlying t with
      | some (.slice _) => (cOpd P N S G x).map .len
      | some .string => (cOpd P N S G x).map .lens
      | some (.array n _) => some (.move (.k (.int .i64 (.ofNat n))))
      | some (.pointer a) => (tArr P a).map fun p => .move (.k (.int .i64 (.ofNat p.1)))
      | _ => none
    | .append, [s, x], t :: u :: _ => (tElem P t).bind fun e => (tElem P u).bind fun _ => (tSize P e).bind fun sz => (tBytes P e).bind fun by_ => (tZero P e).bind fun z => bif !(Nat.blt 0 sz && lenIs z.cells sz) then none else
        (cOpd P N S G s).bind fun s => (cOpd P N S G x).map fun x => .append sz by_ s x
    | .copy, [d, s], t :: _ => (tElem P t).bind fun e => (tSize P e).bind fun sz => bif Nat.beq sz 0 then none else (cOpd P N S G d).bind fun d => (cOpd P N S G s).map fun s => .copy sz d s
    | .max, l, _ => (cOpds P N S G l).map .max
    | .min, l, _ => (cOpds P N S G l).map .min
    | _, _, _ => none

def cOp (G : Ctx) : Op → Option COp
  | .move x | .assign x => (cOpd P N S G x).map .move
  | .pick c a b => (cOpd P N S G c).bind fun c => (cOpd P N S G a).bind fun a => (cOpd P N S G b).map fun b => .pick c a b
  | .alloc t => (tZero P t).map fun z => .box (.k z)
  | .box _ x => (cOpd P N S G x).map .box
  | .build t ps => (tZero P t).bind fun z => match P.underlying t with
    | some (.struct fs) => bif fs.toList.all (fun f => (tSize P f.type).isSome) then (cParts P N S G (fun i => (fs[i]?).bind fun f => (tSize P f.type).map fun s => (f.offset, s)) ps.toList).map (fun l => .build z.cells l) else none
    | some (.array _ e) => (tSize P e).bind fun s => (cParts P N S G (fun i => some (i * s, s)) ps.toList).map fun l => .build z.cells l
    | _ => none
  | .buildSlice t n ps => (tElem P t).bind fun e => (tSize P e).bind fun s => (tZero P e).bind fun z => bif Nat.blt (n * s) 65536 && (Nat.blt 0 s && lenIs z.cells s) then
      (cPartsS P N S G n ps.toList).map fun l => .bsl s n z.cells l else none
  | .load t x => (tAgg P t).bind fun a => (tSize P t).bind fun s => (cOpd P N S G x).map fun x => .load a s x
  | .store t x v => (tSize P t).bind fun s => (cOpd P N S G x).bind fun x => (cOpd P N S G v).map fun v => .store s x v
  | .nilCheck x => (cOpd P N S G x).map .nilc
  | .binOp op t x y _ => (cOpd P N S G x).bind fun x => (cOpd P N S G y).bind fun y =>
      match P.underlying t with
      | some (.int _) => some (.bin op x y)
      | some .bool => some (.cmp 0 op x y)
      | some (.pointer _) => some (.cmp 1 op x y)
      | some (.slice _) => some (.cmp 2 op x y)
      | some (.func _ _ _) => some (.cmp 3 op x y)
      | some (.map _ _) => some (.cmp 4 op x y)
      | some (.struct fs) => bif P.eqGuardType P.depth t || P.stoodInHeld t then none else (flatF P fs.toList).bind fun l => match op with
        | .eql => some (.eqs false l x y)
        | .neq => some (.eqs true l x y)
        | _ => none
      | _ => none
  | .unOp op _ x => (cOpd P N S G x).map (.un op)
  | .convert s d x => match P.underlying s, P.underlying d with
    | some (.int _), some (.int k) => (cOpd P N S G x).map (.conv k)
    | some (.slice _), some (.slice _) => none
    | _, _ => none
  | .makeFunc (.func f) first caps => bif Nat.beq first.size 0 then (cOpds P N S G caps.toList).map (.mkfn (key f)) else none
  | .makeMap _ r => match r with | none => some .mkmap | some _ => none
  | .makeSlice t l c => (tElem P t).bind fun e => (tSize P e).bind fun s => (tBytes P e).bind fun b => (tZero P e).bind fun z => bif !(Nat.blt 0 s && lenIs z.cells s) then none else
      (cOpd P N S G l).bind fun l => (cOpd P N S G c).map fun c => .mksl s b z.cells l c
  | .slice t x lo hi mx => match mx with
    | some _ => none
    | none => (tElem P t).bind fun e => (tSize P e).bind fun s => (cOpd P N S G x).bind fun x => (cOpt P N S G lo).bind fun lo => (cOpt P N S G hi).map fun hi => .slc s x lo hi
  | .fieldAddr s x i => (tField P s i).bind fun f => (tSize P f.type).bind fun z => bif Nat.beq z 0 then none else (cOpd P N S G x).map (.faddr f.offset)
  | .field s x i => (tField P s i).bind fun f => (tSize P f.type).bind fun z => (tAgg P f.type).bind fun a => (cOpd P N S G x).map (.fld a f.offset z)
  | .indexAddr t x i => match tElem P t with
    | some e => (tSize P e).bind fun s => (cOpd P N S G x).bind fun x => (cOpd P N S G i).map fun i => .iaddr s x i
    | none => (tArr P t).bind fun (n, e) => (tSize P e).bind fun s => (cOpd P N S G x).bind fun x => (cOpd P N S G i).map fun i => .iaddrA n s x i
  | .index t x i => match P.underlying t with
    | some .string => (cOpd P N S G x).bind fun x => (cOpd P N S G i).map fun i => .idxS x i
    | _ => (tArr P t).bind fun (n, e) => (tSize P e).bind fun s => (tAgg P e).bind fun a => (cOpd P N S G x).bind fun x => (cOpd P N S G i).map fun i => .idxA a n s x i
  | .extract x i => (cOpd P N S G x).map fun x => .extract x i
  | .call c => cCall P N S G c
  | .lookup t m k ok => match P.underlying t with
    | some (.map kt e) => match P.underlying kt with
      | some (.int _) => (tZero P e).bind fun z => (cOpd P N S G m).bind fun m => (cOpd P N S G k).map fun k => .lookup z ok m k
      | _ => none
    | _ => none
  | .mapUpdate t m k v => match P.underlying t with
    | some (.map kt _) => match P.underlying kt with
      | some (.int _) => (cOpd P N S G m).bind fun m => (cOpd P N S G k).bind fun k => (cOpd P N S G v).map fun v => .mapup m k v
      | _ => none
    | _ => none
  | _ => none

def cGuard (G : Ctx) (ops : Array Oper) : Option (Nat × Bool) → Option (Option (COpd × Bool))
  | none => some none
  | some (j, b) => match (ops[j]?).bind (·.dst) with
    | some t => (cOpd P N S G (.tmp t)).map fun x => some (x, b)
    | none => none

/-- where a result goes, and what is known behind it -/
def cDst (G : Ctx) : Option Tmp → Option (Dst × Ctx)
  | none => some (.drop, G)
  | some t => bif Nat.blt t N then match look S t with
    | some p => some (.slot p, ⟨forget t (some p) G.g, G.m⟩)
    | none => some (.push, ⟨(t, .lev G.m) :: forget t none G.g, Nat.succ G.m⟩)
    else none

/-- what an operand is -/
def srcOf (G : Ctx) : Operand → Option Src
  | .tmp t => bif Nat.blt t N then match lookG G.g t with
    | some s => some s
    | none => (look S t).map fun p => .cp (.t p)
    else none
  | .const v => (ofValue v).map fun a => .cp (.k a)
  | .global g => bif Nat.blt g P.globals.size then some (.cp (.k (.ptr (key g) 0))) else none
  | .func f => some (.cp (.k (.fnv (key f) [])))

/-- a copy of a value that stays where it is: an operation that need not be carried out -/
def isCopy (G : Ctx) (o : Oper) : Option Src :=
  match o.guard, o.op with
  | none, .move x => srcOf P N S G x
  | none, .assign x => srcOf P N S G x
  | _, _ => none

def isIn (t : Nat) : List Nat → Bool
  | [] => false
  | u :: l => bif Nat.beq t u then true else isIn t l

/-- one operation; none at its place: it is a copy. A: the temporaries that are not to be taken for copies -/
def cOper (G : Ctx) (ops : Array Oper) (o : Oper) : Option (Option CO × Ctx) :=
  (cGuard P N S G ops o.guard).bind fun g => (cDst N S G o.dst).bind fun (d, G') =>
    match d, o.dst, isCopy P N S G o with
    | .push, some t, some x => bif isIn t A then some (some ⟨d, (cOp P N S G o.op).getD .bad, g⟩, G') else some (none, ⟨(t, x) :: forget t none G.g, G.m⟩)
    | _, _, _ => some (some ⟨d, (cOp P N S G o.op).getD .bad, g⟩, G')

def consO (a : Option CO) (r : List CO) : List CO :=
  match a with
  | some a => a :: r
  | none => r

def cOpers (ops : Array Oper) : Ctx → List Oper → Option (List CO × Ctx)
  | G, [] => some ([], G)
  | G, o :: l => (cOper P N S A G ops o).bind fun (a, G') => (cOpers ops G' l).bind fun (r, G'') => some (consO a r, G'')

/-- for a region that draws: every result that is read goes to the environment, others are dropped -/
def cDstD : Option Tmp → Option Dst
  | none => some .drop
  | some t => bif Nat.blt t N then match look S t with
    | some p => some (.slot p)
    | none => some .drop
    else none

/-- the temporaries at which an operation looks, with their places -/
def opTmps (ops : Array Oper) (o : Oper) : List Tmp :=
  (o.op.operands.toList.filterMap fun | .tmp t => some t | _ => none) ++
  (match o.guard with
   | some (g, _) => ((ops[g]?).bind (·.dst)).toList
   | none => [])
def ownS (ops : Array Oper) (o : Oper) : List (Nat × Pth) := S.filter fun x => isIn x.1 (opTmps ops o)

def cOperD (ops : Array Oper) (o : Oper) : Option CO :=
  (cGuard P N (ownS S ops o) ⟨[], 0⟩ ops o.guard).bind fun g => (cDstD N S o.dst).bind fun d => some ⟨d, (cOp P N (ownS S ops o) ⟨[], 0⟩ o.op).getD .bad, g⟩

def cOpersD (ops : Array Oper) : List Oper → Option (List CO)
  | [] => some []
  | o :: l => (cOperD P N S ops o).bind fun a => (cOpersD ops l).bind fun r => some (a :: r)

def kindOf : Op → Nat
  | .alloc _ | .box .. | .buildSlice .. | .makeSlice .. | .makeMap .. => 2
  | .load .. | .lookup .. => 1
  | .store .. | .mapUpdate .. => 3
  | .call c => match c.callee with
    | .builtin .append | .builtin .copy => 3
    | .builtin _ => 0
    | _ => 3
  | _ => 0

def bitAt (b : Array Nat) (i j : Nat) : Bool := (b.getD i 0).testBit j

/-- how many of the first i operations are in the chain -/
def chN (kd : Nat → Nat) : Nat → Nat
  | 0 => 0
  | i + 1 => bif Nat.beq (kd i) 3 then Nat.succ (chN kd i) else chN kd i

def kdOf (ops : Array Oper) (i : Nat) : Nat := ((ops[i]?).map fun o => kindOf o.op).getD 0
def loOf (ops : Array Oper) (b : Array Nat) (i : Nat) : Nat := ((List.range ops.size).filter fun j => Nat.beq (kdOf ops j) 3 && bitAt b i j).length
def hiOf (ops : Array Oper) (b : Array Nat) (i : Nat) : Nat := ((List.range ops.size).filter fun j => Nat.beq (kdOf ops j) 3 && !bitAt b j i).length

/-- further checks: what stands ahead of an operation is what its edges say; the places in the chain -/
def dwOk2 (ops : Array Oper) (b : Array Nat) : Bool :=
  let l := List.range ops.size
  let kd := kdOf ops
  let cn := chN kd
  (l.all fun i => l.all fun j => !bitAt b i j || (Nat.blt j i && match ops[i]? with
    | none => false
    | some o => o.after.toList.any fun e => Region.binds .any e && (Nat.beq e.on j || bitAt b e.on j))) &&
  (l.all fun i => bif Nat.beq (kd i) 3 then l.all fun k => !Nat.beq (kd k) 2 || !Nat.beq (hiOf ops b k) (cn i) || bitAt b i k else true) &&
  (l.all fun i => bif Nat.beq (kd i) 1 || Nat.beq (kd i) 2 then
    (l.all fun j => !Nat.beq (kd j) 3 || ((!Nat.blt (cn j) (loOf ops b i) || bitAt b i j) && (!Nat.ble (hiOf ops b i) (cn j) || bitAt b j i))) &&
    (Nat.ble (loOf ops b i) (cn ops.size) && Nat.ble (hiOf ops b i) (cn ops.size)) else true)

/-- the checks on a region that draws its order -/
def dwOk (ops : Array Oper) (b : Array Nat) : Bool :=
  let l := List.range ops.size
  let kd (i : Nat) : Nat := ((ops[i]?).map fun o => kindOf o.op).getD 0
  let cmp (i j : Nat) : Bool := bitAt b i j || bitAt b j i
  (l.all fun i => l.all fun j => Nat.ble j i || !(Nat.beq (kd i) 3 && Nat.beq (kd j) 3) || bitAt b j i) &&
  (l.all fun i => match ops[i]? with
    | none => false
    | some o =>
      (o.after.toList.all fun e => !Region.binds .any e || Nat.blt e.on i) &&
      ((opTmps ops o).all fun t => l.all fun j => Nat.beq i j || !(((ops[j]?).bind (·.dst)) == some t) || cmp i j) &&
      (match o.dst with
       | none => true
       | some t => l.all fun j => Nat.beq i j || !(((ops[j]?).bind (·.dst)) == some t)))

def dwOf (ops : Array Oper) (b : Array Nat) (i : Nat) : Dw := ⟨kdOf ops i, loOf ops b i, hiOf ops b i⟩

def zipDw (ops : Array Oper) (b : Array Nat) : Nat → List CO → List (CO × Dw)
  | _, [] => []
  | i, c :: l => (c, dwOf ops b i) :: zipDw ops b (i + 1) l

def cRegD (ops : Array Oper) : Option CC :=
  (cOpersD P N S ops ops.toList).bind fun l =>
    let b := Region.before ops
    bif dwOk ops b && dwOk2 ops b then some (.regd (zipDw ops b 0 l)) else none

/-- a region and the test behind it; what comes of the two arms is x and y -/
def cRegC (ops : Array Oper) (c : Operand) (x y : CC) : Option CC :=
  (cOpers P N S A ops ⟨[], 0⟩ ops.toList).bind fun (l, G) => (cOpd P N S G c).bind fun c => some (.regc (Ops.ofL l) c x y)

/-- no range over a function within -/
def noRange : CC → Bool
  | .rangeF _ _ _ _ => false
  | .cond _ a b => noRange a && noRange b
  | .block _ c => noRange c
  | .loop c => noRange c
  | .regc _ _ a b => noRange a && noRange b
  | .seq a b => noRange a && noRange b
  | _ => true

def cCode : Code → Option CC
  | .skip => some .skip
  | .label _ => some .skip
  | .ret => some .ret
  | .exit id => some (.exit id)
  | .seq (.region _ ops false) (.cond c a b) =>
    (cCode a).bind fun a => (cCode b).bind fun b => cRegC P N S A ops c a b
  | .seq (.region _ ops false) (.seq (.cond c a b) r) =>
    (cCode a).bind fun a => (cCode b).bind fun b => (cCode r).bind fun r => (cRegC P N S A ops c a b).bind fun x => some (.seq x r)
  | .seq a b => (cCode a).bind fun a => (cCode b).bind fun b => some (.seq a b)
  | .cond c a b => (cOpd P N S ⟨[], 0⟩ c).bind fun c => (cCode a).bind fun a => (cCode b).bind fun b => some (.cond c a b)
  | .block id c => (cCode c).bind fun c => some (.block id c)
  | .loop c => (cCode c).bind fun c => some (.loop c)
  | .region _ ops d => bif d then cRegD P N S ops else (cOpers P N S A ops ⟨[], 0⟩ ops.toList).bind fun (l, _) => some (.reg (Ops.ofL l))
  | .rangeFunc f ps as bd => (cOpd P N S ⟨[], 0⟩ f).bind fun f => (ps.toList.mapM (look S)).bind fun q => bif ps.all fun t => Nat.blt t N then (cCode as).bind fun as => (cCode bd).bind fun bd => bif noRange as && noRange bd then some (.rangeF f q as bd) else none else none
  | _ => some .bad
end

def cRes (P : Program) (N : Nat) (S : List (Nat × Pth)) : List ResultVar → Option (List (Pth × Option (Bool × Nat)))
  | [] => some []
  | .tmp t :: r => bif Nat.blt t N then (look S t).bind fun p => (cRes P N S r).bind fun l => some ((p, none) :: l) else none
  | .cell a t :: r => bif Nat.blt a N then (look S a).bind fun p => (tAgg P t).bind fun g => (tSize P t).bind fun s => (cRes P N S r).bind fun l => some ((p, some (g, s)) :: l) else none

def slotsOk : List (Nat × Pth) → Bool
  | [] => true
  | (t, p) :: l => (l.all fun (u, q) => !(Nat.beq t u) && !(pthEq p q)) && slotsOk l

def cParams (S : List (Nat × Pth)) : Nat → Nat → List (Option Pth)
  | _, 0 => []
  | i, n + 1 => look S i :: cParams S (i + 1) n

def cFn (P : Program) (S : List (Nat × Pth)) (A : List Nat) (f : Func) : Option CFn :=
  f.body.bind fun b => bif f.name == "runtime.NumGoroutine" || !slotsOk S || Nat.blt f.ntmps (f.params.size + f.nfree) then none else
    (cCode P f.ntmps S A b).bind fun c => (cRes P f.ntmps S f.results.toList).bind fun r => some ⟨cParams S 0 (f.params.size + f.nfree), c, r, []⟩

end Go.Ex

namespace Go.Ex

/-! The same functions as in Run, written by recursors over closed arms: what the kernel reduces quickly. -/

noncomputable def selF {β : Type} (d : D) : C8 β → β :=
  D.rec (motive := fun _ => C8 β → β) (fun c => c.c0) (fun c => c.c1) (fun c => c.c2) (fun c => c.c3) (fun c => c.c4) (fun c => c.c5) (fun c => c.c6) (fun c => c.c7) d
theorem selF_eq {β : Type} (d : D) (c : C8 β) : selF d c = sel c d := by cases d <;> rfl

noncomputable def updF {β : Type} (d : D) : C8 β → β → C8 β :=
  D.rec (motive := fun _ => C8 β → β → C8 β)
    (fun c x => C8.rec (motive := fun _ => C8 β) (fun _ b c d e f g h => ⟨x, b, c, d, e, f, g, h⟩) c)
    (fun c x => C8.rec (motive := fun _ => C8 β) (fun a _ c d e f g h => ⟨a, x, c, d, e, f, g, h⟩) c)
    (fun c x => C8.rec (motive := fun _ => C8 β) (fun a b _ d e f g h => ⟨a, b, x, d, e, f, g, h⟩) c)
    (fun c x => C8.rec (motive := fun _ => C8 β) (fun a b c _ e f g h => ⟨a, b, c, x, e, f, g, h⟩) c)
    (fun c x => C8.rec (motive := fun _ => C8 β) (fun a b c d _ f g h => ⟨a, b, c, d, x, f, g, h⟩) c)
    (fun c x => C8.rec (motive := fun _ => C8 β) (fun a b c d e _ g h => ⟨a, b, c, d, e, x, g, h⟩) c)
    (fun c x => C8.rec (motive := fun _ => C8 β) (fun a b c d e f _ h => ⟨a, b, c, d, e, f, x, h⟩) c)
    (fun c x => C8.rec (motive := fun _ => C8 β) (fun a b c d e f g _ => ⟨a, b, c, d, e, f, g, x⟩) c) d
theorem updF_eq {β : Type} (d : D) (c : C8 β) (x : β) : updF d c x = upd c x d := by cases d <;> rfl

section tree
variable {α : Type}
noncomputable def getE (z : α) (t : T8 α) : α := T8.rec (motive_1 := fun _ => _) (motive_2 := fun _ => Unit) z (fun v _ _ => v) (fun _ _ _ _ _ _ _ _ _ _ _ _ _ _ _ _ => ()) t
noncomputable def getS (z : α) (d : D) (ih : T8 α → α) (t : T8 α) : α := T8.rec (motive_1 := fun _ => _) (motive_2 := fun _ => Unit) z (fun _ c _ => ih (selF d c)) (fun _ _ _ _ _ _ _ _ _ _ _ _ _ _ _ _ => ()) t
noncomputable def getF (z : α) (p : Pth) : T8 α → α := Pth.rec (motive := fun _ => T8 α → α) (getE z) (fun d _ ih => getS z d ih) p
theorem getF_eq (z : α) (p : Pth) (t : T8 α) : getF z p t = T8.get z p t := by
  induction p generalizing t with
  | e => cases t <;> rfl
  | s d p ih =>
    cases t with
    | nil => rfl
    | node v c => show getF z p (selF d c) = _; rw [ih, selF_eq]; rfl
noncomputable def putE (x : α) (t : T8 α) : T8 α := T8.rec (motive_1 := fun _ => _) (motive_2 := fun _ => Unit) (.node x nil8) (fun _ c _ => .node x c) (fun _ _ _ _ _ _ _ _ _ _ _ _ _ _ _ _ => ()) t
noncomputable def putS (z : α) (d : D) (ih : T8 α → T8 α) (t : T8 α) : T8 α :=
  T8.rec (motive_1 := fun _ => _) (motive_2 := fun _ => Unit) (.node z (updF d nil8 (ih .nil))) (fun v c _ => .node v (updF d c (ih (selF d c)))) (fun _ _ _ _ _ _ _ _ _ _ _ _ _ _ _ _ => ()) t
noncomputable def putF (z x : α) (p : Pth) : T8 α → T8 α := Pth.rec (motive := fun _ => T8 α → T8 α) (putE x) (fun d _ ih => putS z d ih) p
theorem putF_eq (z x : α) (p : Pth) (t : T8 α) : putF z x p t = T8.put z x p t := by
  induction p generalizing t with
  | e => cases t <;> rfl
  | s d p ih =>
    cases t with
    | nil => show T8.node z (updF d nil8 (putF z x p .nil)) = _; rw [ih, updF_eq]; rfl
    | node v c => show T8.node v (updF d c (putF z x p (selF d c))) = _; rw [ih, updF_eq, selF_eq]; rfl
end tree

/-- the environment's -/
noncomputable def getA (p : Pth) : T8 AVal → AVal :=
  Pth.rec (motive := fun _ => T8 AVal → AVal) (fun t => T8.rec (motive_1 := fun _ => _) (motive_2 := fun _ => Unit) .bad (fun v _ _ => v) (fun _ _ _ _ _ _ _ _ _ _ _ _ _ _ _ _ => ()) t) (fun d _ ih t => T8.rec (motive_1 := fun _ => _) (motive_2 := fun _ => Unit) .bad (fun _ c _ => ih (selF d c)) (fun _ _ _ _ _ _ _ _ _ _ _ _ _ _ _ _ => ()) t) p
theorem getA_eq (p : Pth) (t : T8 AVal) : getA p t = T8.get .bad p t := getF_eq AVal.bad p t
noncomputable def putA (x : AVal) (p : Pth) : T8 AVal → T8 AVal :=
  Pth.rec (motive := fun _ => T8 AVal → T8 AVal) (putE x) (fun d _ ih => putS .bad d ih) p
theorem putA_eq (x : AVal) (p : Pth) (t : T8 AVal) : putA x p t = T8.put .bad x p t := putF_eq AVal.bad x p t
noncomputable def getH (p : Pth) : T8 AObj → AObj :=
  Pth.rec (motive := fun _ => T8 AObj → AObj) (fun t => T8.rec (motive_1 := fun _ => _) (motive_2 := fun _ => Unit) .dead (fun v _ _ => v) (fun _ _ _ _ _ _ _ _ _ _ _ _ _ _ _ _ => ()) t) (fun d _ ih t => T8.rec (motive_1 := fun _ => _) (motive_2 := fun _ => Unit) .dead (fun _ c _ => ih (selF d c)) (fun _ _ _ _ _ _ _ _ _ _ _ _ _ _ _ _ => ()) t) p
theorem getH_eq (p : Pth) (t : T8 AObj) : getH p t = T8.get .dead p t := getF_eq AObj.dead p t
noncomputable def putH (x : AObj) (p : Pth) : T8 AObj → T8 AObj :=
  Pth.rec (motive := fun _ => T8 AObj → T8 AObj) (putE x) (fun d _ ih => putS .dead d ih) p
theorem putH_eq (x : AObj) (p : Pth) (t : T8 AObj) : putH x p t = T8.put .dead x p t := putF_eq AObj.dead x p t

noncomputable def dF (r : Nat) : D :=
  Bool.rec (motive := fun _ => D) (Bool.rec (motive := fun _ => D) (Bool.rec (motive := fun _ => D) .d0 .d1 (Nat.beq r 1)) (Bool.rec (motive := fun _ => D) .d2 .d3 (Nat.beq r 3)) (Nat.ble 2 r))
    (Bool.rec (motive := fun _ => D) (Bool.rec (motive := fun _ => D) .d4 .d5 (Nat.beq r 5)) (Bool.rec (motive := fun _ => D) .d6 .d7 (Nat.ble 7 r)) (Nat.ble 6 r)) (Nat.ble 4 r)
theorem dF_eq (r : Nat) : dF r = D.of r := by
  match r with
  | 0 | 1 | 2 | 3 | 4 | 5 | 6 => rfl
  | n + 7 =>
    have h1 : Nat.ble 4 (n + 7) = true := Nat.ble_eq_true_of_le (by omega)
    have h2 : Nat.ble 6 (n + 7) = true := Nat.ble_eq_true_of_le (by omega)
    have h3 : Nat.ble 7 (n + 7) = true := Nat.ble_eq_true_of_le (by omega)
    unfold dF
    rw [h1, h2, h3]
    rfl
noncomputable def pathF (f : Nat) : Nat → Pth :=
  Nat.rec (motive := fun _ => Nat → Pth) (fun _ => .e) (fun _ ih n => Bool.rec (motive := fun _ => Pth) (.s (dF (Nat.mod n 8)) (ih (Nat.div n 8))) .e (Nat.beq n 0)) f
theorem pathF_eq (f n : Nat) : pathF f n = pathOf f n := by
  induction f generalizing n with
  | zero => rfl
  | succ f ih =>
    show Bool.rec (motive := fun _ => Pth) (.s (dF (Nat.mod n 8)) (pathF f (Nat.div n 8))) .e (Nat.beq n 0) = bif Nat.beq n 0 then Pth.e else .s (D.of (Nat.mod n 8)) (pathOf f (Nat.div n 8))
    rw [ih, dF_eq]
    cases Nat.beq n 0 <;> rfl
noncomputable def keyF (n : Nat) : Pth := pathF n n
theorem keyF_eq (n : Nat) : keyF n = key n := pathF_eq n n

/-! ### operands -/
noncomputable def getLF (i : Ix) : List AVal → AVal :=
  Ix.rec (motive := fun _ => List AVal → AVal) (fun L => List.rec (motive := fun _ => _) .bad (fun a _ _ => a) L) (fun _ ih L => List.rec (motive := fun _ => _) .bad (fun _ l _ => ih l) L) i
theorem getLF_eq (i : Ix) (L : List AVal) : getLF i L = getL i L := by
  induction i generalizing L with
  | z => cases L <;> rfl
  | s i ih => cases L with
    | nil => rfl
    | cons a l => exact ih l
noncomputable def evF (x : COpd) : List AVal → T8 AVal → AVal :=
  COpd.rec (motive := fun _ => List AVal → T8 AVal → AVal) (fun i L _ => getLF i L) (fun p _ e => getA p e) (fun v _ _ => v) x
theorem evF_eq (x : COpd) (L : List AVal) (e : T8 AVal) : evF x L e = x.ev L e := by
  cases x with
  | l i => exact getLF_eq i L
  | t p => exact getA_eq p e
  | k v => rfl
noncomputable def evsF (xs : List COpd) : List AVal → T8 AVal → List AVal :=
  List.rec (motive := fun _ => List AVal → T8 AVal → List AVal) (fun _ _ => []) (fun x _ ih L e => evF x L e :: ih L e) xs
theorem evsF_eq (xs : List COpd) (L : List AVal) (e : T8 AVal) : evsF xs L e = evs L e xs := by
  induction xs with
  | nil => rfl
  | cons x xs ih => show evF x L e :: evsF xs L e = _; rw [ih, evF_eq]; rfl

/-! ### integers -/
noncomputable def i64F (m : Nat) : Int := Bool.rec (IntKind.i64.wrap (.ofNat m)) (.ofNat m) (Nat.blt m two63)
noncomputable def w64F (n : Int) : Int := Int.rec i64F (fun m => wrapN .i64 (.negSucc m)) n
noncomputable def wu64F (n : Int) : Int := Int.rec (fun m => .ofNat (Nat.mod m two64)) (fun m => IntKind.u64.wrap (.negSucc m)) n
noncomputable def wu32F (n : Int) : Int := Int.rec (fun m => .ofNat (Nat.mod m two32)) (fun m => IntKind.u32.wrap (.negSucc m)) n
noncomputable def wrapF (k : IntKind) : Int → Int :=
  IntKind.rec (motive := fun _ => Int → Int) (fun n => IntKind.i8.wrap n) (fun n => IntKind.i16.wrap n) (fun n => IntKind.i32.wrap n) w64F (fun n => IntKind.u8.wrap n) (fun n => IntKind.u16.wrap n) wu32F wu64F k
theorem i64F_eq (m : Nat) : i64F m = wrapN .i64 (.ofNat m) := by
  unfold i64F wrapN
  dsimp only
  generalize Nat.blt m two63 = c
  cases c <;> rfl
theorem wrapF_eq (k : IntKind) (n : Int) : wrapF k n = wrapN k n := by
  cases k with
  | i64 => cases n with
    | ofNat m => exact i64F_eq m
    | negSucc m => rfl
  | _ => cases n <;> (unfold wrapN; rfl)

noncomputable def addF (a : Int) : Int → Int :=
  Int.rec (motive := fun _ => Int → Int) (fun m b => Int.rec (motive := fun _ => Int) (fun n => .ofNat (Nat.add m n)) (fun n => Int.add (.ofNat m) (.negSucc n)) b) (fun m b => Int.add (.negSucc m) b) a
theorem addF_eq (a b : Int) : addF a b = Int.add a b := by cases a <;> cases b <;> rfl
noncomputable def subNN (m n : Nat) : Int := Bool.rec (Int.sub (.ofNat m) (.ofNat n)) (.ofNat (Nat.sub m n)) (Nat.ble n m)
theorem subNN_eq (m n : Nat) : subNN m n = Int.sub (.ofNat m) (.ofNat n) := by
  unfold subNN
  cases h : Nat.ble n m with
  | false => rfl
  | true =>
    have h' : n ≤ m := Nat.le_of_ble_eq_true h
    show ((m - n : Nat) : Int) = (m : Int) - (n : Int)
    omega
noncomputable def subF (a : Int) : Int → Int :=
  Int.rec (motive := fun _ => Int → Int) (fun m b => Int.rec (motive := fun _ => Int) (fun n => subNN m n) (fun n => Int.sub (.ofNat m) (.negSucc n)) b) (fun m b => Int.sub (.negSucc m) b) a
theorem subF_eq (a b : Int) : subF a b = Int.sub a b := by cases a <;> cases b <;> first | rfl | exact subNN_eq _ _
noncomputable def mulF (a : Int) : Int → Int :=
  Int.rec (motive := fun _ => Int → Int) (fun m b => Int.rec (motive := fun _ => Int) (fun n => .ofNat (Nat.mul m n)) (fun n => Int.mul (.ofNat m) (.negSucc n)) b) (fun m b => Int.mul (.negSucc m) b) a
theorem mulF_eq (a b : Int) : mulF a b = Int.mul a b := by cases a <;> cases b <;> rfl
noncomputable def intEqF (a : Int) : Int → Bool :=
  Int.rec (motive := fun _ => Int → Bool) (fun m b => Int.rec (motive := fun _ => Bool) (fun n => Nat.beq m n) (fun _ => false) b) (fun m b => Int.rec (motive := fun _ => Bool) (fun _ => false) (fun n => Nat.beq m n) b) a
theorem intEqF_eq (a b : Int) : intEqF a b = intEq a b := by cases a <;> cases b <;> rfl
noncomputable def intLtF (a : Int) : Int → Bool :=
  Int.rec (motive := fun _ => Int → Bool) (fun m b => Int.rec (motive := fun _ => Bool) (fun n => Nat.blt m n) (fun _ => false) b) (fun m b => Int.rec (motive := fun _ => Bool) (fun _ => true) (fun n => Nat.blt n m) b) a
theorem intLtF_eq (a b : Int) : intLtF a b = intLt a b := by cases a <;> cases b <;> rfl
noncomputable def notF (b : Bool) : Bool := Bool.rec true false b
theorem notF_eq (b : Bool) : notF b = !b := by cases b <;> rfl
noncomputable def kindEqF (k : IntKind) : IntKind → Bool :=
  IntKind.rec (motive := fun _ => IntKind → Bool)
    (fun l => IntKind.rec (motive := fun _ => Bool) true false false false false false false false l)
    (fun l => IntKind.rec (motive := fun _ => Bool) false true false false false false false false l)
    (fun l => IntKind.rec (motive := fun _ => Bool) false false true false false false false false l)
    (fun l => IntKind.rec (motive := fun _ => Bool) false false false true false false false false l)
    (fun l => IntKind.rec (motive := fun _ => Bool) false false false false true false false false l)
    (fun l => IntKind.rec (motive := fun _ => Bool) false false false false false true false false l)
    (fun l => IntKind.rec (motive := fun _ => Bool) false false false false false false true false l)
    (fun l => IntKind.rec (motive := fun _ => Bool) false false false false false false false true l) k
theorem kindEqF_eq (k l : IntKind) : kindEqF k l = kindEq k l := by cases k <;> cases l <;> rfl

noncomputable def binOpF (op : BinOp) : IntKind → IntKind → Int → Int → AVal :=
  BinOp.rec (motive := fun _ => IntKind → IntKind → Int → Int → AVal)
    (fun k l a b => Bool.rec .bad (.int k (wrapF k (addF a b))) (kindEqF k l))
    (fun k l a b => Bool.rec .bad (.int k (wrapF k (subF a b))) (kindEqF k l))
    (fun k l a b => Bool.rec .bad (.int k (wrapF k (mulF a b))) (kindEqF k l))
    (fun k l a b => binV .quo (.int k a) (.int l b))
    (fun k l a b => binV .rem (.int k a) (.int l b))
    (fun k l a b => binV .and (.int k a) (.int l b))
    (fun k l a b => binV .or (.int k a) (.int l b))
    (fun k l a b => binV .xor (.int k a) (.int l b))
    (fun k l a b => binV .shl (.int k a) (.int l b))
    (fun k l a b => binV .shr (.int k a) (.int l b))
    (fun k l a b => binV .andNot (.int k a) (.int l b))
    (fun k l a b => Bool.rec .bad (.bool (intEqF a b)) (kindEqF k l))
    (fun k l a b => Bool.rec .bad (.bool (notF (intEqF a b))) (kindEqF k l))
    (fun k l a b => Bool.rec .bad (.bool (intLtF a b)) (kindEqF k l))
    (fun k l a b => Bool.rec .bad (.bool (notF (intLtF b a))) (kindEqF k l))
    (fun k l a b => Bool.rec .bad (.bool (intLtF b a)) (kindEqF k l))
    (fun k l a b => Bool.rec .bad (.bool (notF (intLtF a b))) (kindEqF k l)) op
theorem binOpF_eq (op : BinOp) (k l : IntKind) (a b : Int) : binOpF op k l a b = binV op (.int k a) (.int l b) := by
  cases op <;> simp only [binOpF, binV, isShift, cond, kindEqF_eq, wrapF_eq, addF_eq, subF_eq, mulF_eq, intEqF_eq, intLtF_eq, notF_eq, intBin] <;> (try (cases kindEq k l <;> rfl)) <;> rfl

noncomputable def binI (k : IntKind) (a : Int) (op : BinOp) (y : AVal) : AVal :=
  AVal.rec (motive_1 := fun _ => IntKind → Int → BinOp → AVal → AVal) (motive_2 := fun _ => Unit) (fun k a op y => binV op (.int k a) y) (fun k a op y => binV op (.int k a) y) (fun k a op y => binV op (.int k a) y) (fun k a op y => binV op (.int k a) y) (fun k a op y => binV op (.int k a) y) (fun k a op y => binV op (.int k a) y) (fun _ k a op y => binV op (.int k a) y) (fun _ k a op y => binV op (.int k a) y) (fun _ k a op y => binV op (.int k a) y) (fun _ k a op y => binV op (.int k a) y) (fun _ _ _ k a op y => binV op (.int k a) y) (fun _ _ k a op y => binV op (.int k a) y) (fun _ _ k a op y => binV op (.int k a) y) (fun _ _ _ _ k a op y => binV op (.int k a) y) (fun _ _ _ _ k a op y => binV op (.int k a) y) (fun _ _ k a op y => binV op (.int k a) y) (fun _ k a op y => binV op (.int k a) y) (fun l b k a op _ => binOpF op k l a b) () (fun _ _ _ _ => ()) y k a op y
theorem binI_eq (k : IntKind) (a : Int) (op : BinOp) (y : AVal) : binI k a op y = binV op (.int k a) y := by
  cases y <;> first | rfl | exact binOpF_eq _ _ _ _ _
noncomputable def binF (op : BinOp) (x y : AVal) : AVal :=
  AVal.rec (motive_1 := fun _ => BinOp → AVal → AVal → AVal) (motive_2 := fun _ => Unit) (fun op x y => binV op x y) (fun op x y => binV op x y) (fun op x y => binV op x y) (fun op x y => binV op x y) (fun op x y => binV op x y) (fun op x y => binV op x y) (fun _ op x y => binV op x y) (fun _ op x y => binV op x y) (fun _ op x y => binV op x y) (fun _ op x y => binV op x y) (fun _ _ _ op x y => binV op x y) (fun _ _ op x y => binV op x y) (fun _ _ op x y => binV op x y) (fun _ _ _ _ op x y => binV op x y) (fun _ _ _ _ op x y => binV op x y) (fun _ _ op x y => binV op x y) (fun _ op x y => binV op x y) (fun k a op _ y => binI k a op y) () (fun _ _ _ _ => ()) x op x y
theorem binF_eq (op : BinOp) (x y : AVal) : binF op x y = binV op x y := by
  cases x <;> first | rfl | exact binI_eq _ _ _ _

/-! ### memory -/
noncomputable def takeF (n : Nat) : List AVal → Option (List AVal) := takeN n
noncomputable def dropF (n : Nat) (l : List AVal) : List AVal := Bool.rec (dropN n l) l (Nat.beq n 0)
theorem dropF_eq (n : Nat) (l : List AVal) : dropF n l = dropN n l := by
  unfold dropF
  cases h : Nat.beq n 0 with
  | false => rfl
  | true => rw [Nat.eq_of_beq_eq_true h]; cases l <;> rfl
/-- load of one cell -/
noncomputable def headF (l : List AVal) : AVal := List.rec (motive := fun _ => _) .bad (fun a _ _ => a) l
theorem headF_eq (l : List AVal) : headF l = single false (takeN 1 l) := by cases l <;> rfl
noncomputable def elemF (j : Nat) (dflt : List AVal) (els : T8 (List AVal)) : List AVal :=
  List.rec (motive := fun _ => List AVal → List AVal) (fun d => d) (fun a l _ _ => a :: l) (getF [] (keyF j) els) dflt
theorem elemF_eq (j : Nat) (dflt : List AVal) (els : T8 (List AVal)) : elemF j dflt els = elem j dflt els := by
  unfold elemF elem
  rw [keyF_eq, getF_eq]
  cases T8.get [] (key j) els <;> rfl
noncomputable def cellsF (agg : Bool) (sz esz n : Nat) (dflt : List AVal) (els : T8 (List AVal)) (off : Nat) : AVal :=
  Bool.rec .bad (single agg (takeN sz (dropF (Nat.mod off esz) (elemF (Nat.div off esz) dflt els)))) (Nat.blt (Nat.div off esz) n)
theorem cellsF_eq (agg : Bool) (sz esz n : Nat) (dflt : List AVal) (els : T8 (List AVal)) (off : Nat) : cellsF agg sz esz n dflt els off = cellsAt agg sz esz n dflt els off := by
  unfold cellsF cellsAt
  rw [dropF_eq, elemF_eq]
  cases Nat.blt (Nat.div off esz) n <;> rfl
noncomputable def cells1F (esz n : Nat) (dflt : List AVal) (els : T8 (List AVal)) (off : Nat) : AVal :=
  Bool.rec .bad (headF (dropF (Nat.mod off esz) (elemF (Nat.div off esz) dflt els))) (Nat.blt (Nat.div off esz) n)
theorem cells1F_eq (esz n : Nat) (dflt : List AVal) (els : T8 (List AVal)) (off : Nat) : cells1F esz n dflt els off = cellsAt false 1 esz n dflt els off := by
  unfold cells1F cellsAt
  rw [headF_eq, dropF_eq, elemF_eq]
  cases Nat.blt (Nat.div off esz) n <;> rfl
noncomputable def load1F (o : AObj) (off : Nat) : AVal :=
  AObj.rec (motive := fun _ => Nat → AVal) (fun _ => .bad) (fun _ _ _ _ _ _ => .bad) (fun _ _ => .bad) (fun esz n d els off => cells1F esz n d els off) (fun esz n d els off => cells1F esz n d els off) o off
noncomputable def loadAF (o : AObj) (agg : Bool) (sz off : Nat) : AVal :=
  AObj.rec (motive := fun _ => Bool → Nat → Nat → AVal) (fun _ _ _ => .bad) (fun _ _ _ _ _ _ _ _ => .bad) (fun _ _ _ _ => .bad) (fun esz n d els agg sz off => cellsF agg sz esz n d els off) (fun esz n d els agg sz off => cellsF agg sz esz n d els off) o agg sz off
noncomputable def loadPF (H : AH) (agg : Bool) (sz : Nat) (id : Pth) (off : Nat) : AVal :=
  Bool.rec (Bool.rec (loadAF (getH id H.m) agg sz off) (load1F (getH id H.m) off) (Nat.beq sz 1)) (loadAF (getH id H.m) agg sz off) agg
theorem loadPF_eq (H : AH) (agg : Bool) (sz : Nat) (id : Pth) (off : Nat) : loadPF H agg sz id off = loadAt H agg sz id off := by
  unfold loadPF loadAt
  rw [getH_eq]
  cases agg with
  | true => cases T8.get .dead id H.m <;> first | rfl | exact cellsF_eq _ _ _ _ _ _ _
  | false =>
    cases h : Nat.beq sz 1 with
    | false => cases T8.get .dead id H.m <;> first | rfl | exact cellsF_eq _ _ _ _ _ _ _
    | true => rw [Nat.eq_of_beq_eq_true h]; cases T8.get .dead id H.m <;> first | rfl | exact cells1F_eq _ _ _ _ _
noncomputable def loadF (agg : Bool) (sz : Nat) (x : AVal) (H : AH) : AVal :=
  AVal.rec (motive_1 := fun _ => Bool → Nat → AH → AVal) (motive_2 := fun _ => Unit) (fun _ _ _ => .bad) (fun _ _ _ => .bad) (fun _ _ _ => .bad) (fun _ _ _ => .bad) (fun _ _ _ => .bad) (fun _ _ _ => .bad) (fun _ _ _ _ => .bad) (fun _ _ _ _ => .bad) (fun _ _ _ _ => .bad) (fun _ _ _ _ => .bad) (fun _ _ _ _ _ _ => .bad) (fun _ _ _ _ _ => .bad) (fun _ _ _ _ _ => .bad) (fun _ _ _ _ _ _ _ => .bad) (fun _ _ _ _ _ _ _ => .bad) (fun id off agg sz H => loadPF H agg sz id off) (fun _ _ _ _ => .bad) (fun _ _ _ _ _ => .bad) () (fun _ _ _ _ => ()) x agg sz H
theorem loadF_eq (agg : Bool) (sz : Nat) (x : AVal) (H : AH) : loadF agg sz x H = loadV H agg sz x := by
  cases x <;> first | rfl | exact loadPF_eq _ _ _ _ _
noncomputable def setHF (H : AH) (id : Pth) (o : AObj) : AH := AH.rec (motive := fun _ => AH) (fun n m => ⟨n, putH o id m⟩) H
theorem setHF_eq (H : AH) (id : Pth) (o : AObj) : setHF H id o = H.set id o := by cases H; simp only [setHF, AH.set, putH_eq]
noncomputable def addHF (H : AH) (o : AObj) : AH := AH.rec (motive := fun _ => AH) (fun n m => ⟨n.succ, putH o n m⟩) H
theorem addHF_eq (H : AH) (o : AObj) : addHF H o = H.add o := by cases H; simp only [addHF, AH.add, putH_eq]

noncomputable def overF (n : Nat) (new l : List AVal) : Option (List AVal) := overAt n new l
noncomputable def storeOF (o : AObj) (H : AH) (id : Pth) (off : Nat) (cs : List AVal) : R :=
  AObj.rec (motive := fun _ => AH → Pth → Nat → List AVal → R) (fun _ _ _ _ => .no) (fun _ _ _ _ _ _ _ _ _ => .no) (fun _ _ _ _ _ => .no) (fun _ _ _ _ _ _ _ _ => .no) (fun esz n d els H id off cs => Bool.rec .no
      (Option.rec (motive := fun _ => _) .no (fun c => .ok undefV (setHF H id (.arr esz n d (putF [] c (keyF (Nat.div off esz)) els)))) (overAt (Nat.mod off esz) cs (elemF (Nat.div off esz) d els))) (Nat.blt (Nat.div off esz) n)) o H id off cs
theorem storeOF_eq (H : AH) (id : Pth) (off : Nat) (cs : List AVal) : storeOF (getH id H.m) H id off cs = storeAt H id off cs := by
  unfold storeAt
  rw [getH_eq]
  cases T8.get .dead id H.m with
  | arr esz n d els =>
    simp only [storeOF, elemF_eq, keyF_eq, putF_eq, setHF_eq]
    cases Nat.blt (Nat.div off esz) n with
    | false => rfl
    | true => simp only [cond]; cases overAt (Nat.mod off esz) cs (elem (Nat.div off esz) d els) <;> rfl
  | _ => rfl
noncomputable def cellsOfF (v : AVal) : List AVal :=
  AVal.rec (motive_1 := fun _ => AVal → List AVal) (motive_2 := fun _ => Unit) (fun _ => []) (fun  v => [v]) (fun  v => [v]) (fun  v => [v]) (fun  v => [v]) (fun  v => [v]) (fun _ v => [v]) (fun _ v => [v]) (fun _ v => [v]) (fun _ v => [v]) (fun _ _ _ v => [v]) (fun _ _ _ => []) (fun l _ _ => l) (fun _ _ _ _ v => [v]) (fun _ _ _ _ v => [v]) (fun _ _ v => [v]) (fun _ v => [v]) (fun _ _ v => [v])
    () (fun _ _ _ _ => ()) v v
theorem cellsOfF_eq (v : AVal) : cellsOfF v = v.cells := by cases v <;> rfl
noncomputable def storeF (sz : Nat) (x u : AVal) (H : AH) : R :=
  AVal.rec (motive_1 := fun _ => Nat → AVal → AH → R) (motive_2 := fun _ => Unit) (fun _ _ _ => .no) (fun _ _ _ => .no) (fun _ _ _ => .no) (fun _ _ _ => .no) (fun _ _ _ => .no) (fun _ _ _ => .no) (fun _ _ _ _ => .no) (fun _ _ _ _ => .no) (fun _ _ _ _ => .no) (fun _ _ _ _ => .no) (fun _ _ _ _ _ _ => .no) (fun _ _ _ _ _ => .no) (fun _ _ _ _ _ => .no) (fun _ _ _ _ _ _ _ => .no) (fun _ _ _ _ _ _ _ => .no) (fun id off sz u H => Bool.rec (motive := fun _ => R) .no (Bool.rec (motive := fun _ => R) .no (storeOF (getH id H.m) H id off (cellsOfF u)) (lenIs (cellsOfF u) sz)) (Nat.blt 0 sz)) (fun _ _ _ _ => .no) (fun _ _ _ _ _ => .no) () (fun _ _ _ _ => ()) x sz u H
theorem storeF_eq (sz : Nat) (x u : AVal) (H : AH) : storeF sz x u H = storeV H sz x u := by
  cases x <;> first
    | rfl
    | (simp only [storeF, storeV, cellsOfF_eq, storeOF_eq]; cases Nat.blt 0 sz <;> cases lenIs u.cells sz <;> rfl)

noncomputable def notBadF (v : AVal) (H : AH) : R :=
  AVal.rec (motive_1 := fun _ => AVal → AH → R) (motive_2 := fun _ => Unit) (fun _ _ => .no) (fun v H => .ok v H) (fun v H => .ok v H) (fun v H => .ok v H) (fun v H => .ok v H) (fun v H => .ok v H) (fun _ v H => .ok v H) (fun _ v H => .ok v H) (fun _ v H => .ok v H) (fun _ v H => .ok v H) (fun _ _ _ v H => .ok v H) (fun _ _ v H => .ok v H) (fun _ _ v H => .ok v H) (fun _ _ _ _ v H => .ok v H) (fun _ _ _ _ v H => .ok v H) (fun _ _ v H => .ok v H) (fun _ v H => .ok v H) (fun k n _ H => .ok (.int k n) H) () (fun _ _ _ _ => ()) v v H
theorem notBadF_eq (v : AVal) (H : AH) : notBadF v H = notBad v H := by cases v <;> rfl

noncomputable def faddrF (off : Nat) (x : AVal) : AVal :=
  AVal.rec (motive_1 := fun _ => Nat → AVal) (motive_2 := fun _ => Unit) (fun _ => .bad) (fun _ => .bad) (fun _ => .bad) (fun _ => .bad) (fun _ => .bad) (fun _ => .bad) (fun _ _ => .bad) (fun _ _ => .bad) (fun _ _ => .bad) (fun _ _ => .bad) (fun _ _ _ _ => .bad) (fun _ _ _ => .bad) (fun _ _ _ => .bad) (fun _ _ _ _ _ => .bad) (fun _ _ _ _ _ => .bad) (fun id o off => .ptr id (Nat.add o off)) (fun _ _ => .bad) (fun _ _ _ => .bad) () (fun _ _ _ _ => ()) x off
theorem faddrF_eq (off : Nat) (x : AVal) : faddrF off x = faddrV off x := by cases x <;> rfl
noncomputable def iaddrJ (x : AVal) (esz j : Nat) : AVal :=
  AVal.rec (motive_1 := fun _ => Nat → Nat → AVal) (motive_2 := fun _ => Unit) (fun _ _ => .bad) (fun _ _ => .bad) (fun _ _ => .bad) (fun _ _ => .bad) (fun _ _ => .bad) (fun _ _ => .bad) (fun _ _ _ => .bad) (fun _ _ _ => .bad) (fun _ _ _ => .bad) (fun _ _ _ => .bad) (fun _ _ _ _ _ => .bad) (fun _ _ _ _ => .bad) (fun _ _ _ _ => .bad) (fun id off len _ esz j => Bool.rec .bad (.ptr id (Nat.add off (Nat.mul j esz))) (Nat.blt j len)) (fun id off len _ esz j => Bool.rec .bad (.ptr id (Nat.add off (Nat.mul j esz))) (Nat.blt j len)) (fun _ _ _ _ => .bad) (fun _ _ _ => .bad) (fun _ _ _ _ => .bad) () (fun _ _ _ _ => ()) x esz j
noncomputable def iaddrF (esz : Nat) (x i : AVal) : AVal :=
  AVal.rec (motive_1 := fun _ => AVal → Nat → AVal) (motive_2 := fun _ => Unit) (fun _ _ => .bad) (fun _ _ => .bad) (fun _ _ => .bad) (fun _ _ => .bad) (fun _ _ => .bad) (fun _ _ => .bad) (fun _ _ _ => .bad) (fun _ _ _ => .bad) (fun _ _ _ => .bad) (fun _ _ _ => .bad) (fun _ _ _ _ _ => .bad) (fun _ _ _ _ => .bad) (fun _ _ _ _ => .bad) (fun _ _ _ _ _ _ => .bad) (fun _ _ _ _ _ _ => .bad) (fun _ _ _ _ => .bad) (fun _ _ _ => .bad) (fun _ n x esz => Int.rec (motive := fun _ => AVal → Nat → AVal) (fun j x esz => iaddrJ x esz j) (fun _ _ _ => .bad) n x esz) () (fun _ _ _ _ => ()) i x esz
theorem iaddrF_eq (esz : Nat) (x i : AVal) : iaddrF esz x i = iaddrV esz x i := by
  cases i with
  | int k n =>
    cases n with
    | negSucc n => rfl
    | ofNat j =>
      cases x with
      | sl id off len cap => simp only [iaddrF, iaddrJ, iaddrV]; cases Nat.blt j len <;> rfl
      | sg id off len ez => simp only [iaddrF, iaddrJ, iaddrV]; cases Nat.blt j len <;> rfl
      | _ => rfl
  | _ => rfl

/-! ### operations -/
noncomputable def boxF (x : AVal) (H : AH) : R :=
  AVal.rec (motive_1 := fun _ => AVal → AH → R) (motive_2 := fun _ => Unit) (fun _ _ => .no) (fun  v H => .ok (.ptr H.next 0) (addHF H (.arr 1 1 [v] .nil))) (fun  v H => .ok (.ptr H.next 0) (addHF H (.arr 1 1 [v] .nil))) (fun  v H => .ok (.ptr H.next 0) (addHF H (.arr 1 1 [v] .nil))) (fun  v H => .ok (.ptr H.next 0) (addHF H (.arr 1 1 [v] .nil))) (fun  v H => .ok (.ptr H.next 0) (addHF H (.arr 1 1 [v] .nil))) (fun _ v H => .ok (.ptr H.next 0) (addHF H (.arr 1 1 [v] .nil))) (fun _ v H => .ok (.ptr H.next 0) (addHF H (.arr 1 1 [v] .nil))) (fun _ v H => .ok (.ptr H.next 0) (addHF H (.arr 1 1 [v] .nil))) (fun _ v H => .ok (.ptr H.next 0) (addHF H (.arr 1 1 [v] .nil))) (fun _ _ _ v H => .ok (.ptr H.next 0) (addHF H (.arr 1 1 [v] .nil))) (fun _ _ _ _ => .no) (fun l _ _ H => List.rec (motive := fun _ => List AVal → AH → R) (fun _ _ => .no) (fun _ _ _ l H => .ok (.ptr H.next 0) (addHF H (.arr (lenN l) 1 l .nil))) l l H) (fun _ _ _ _ v H => .ok (.ptr H.next 0) (addHF H (.arr 1 1 [v] .nil))) (fun _ _ _ _ v H => .ok (.ptr H.next 0) (addHF H (.arr 1 1 [v] .nil))) (fun _ _ v H => .ok (.ptr H.next 0) (addHF H (.arr 1 1 [v] .nil))) (fun _ v H => .ok (.ptr H.next 0) (addHF H (.arr 1 1 [v] .nil))) (fun _ _ v H => .ok (.ptr H.next 0) (addHF H (.arr 1 1 [v] .nil)))
    () (fun _ _ _ _ => ()) x x H
theorem boxF_eq (v : AVal) (H : AH) : boxF v H = mkR H (boxV v H.next) := by
  cases v with
  | agg l => cases l <;> simp only [boxF, addHF_eq, boxV, mkR, AVal.cells]
  | _ => simp only [boxF, addHF_eq, boxV, mkR, AVal.cells, lenN]

noncomputable def doF (op : COp) : Caller → List AVal → T8 AVal → AH → R :=
  COp.rec (motive := fun _ => Caller → List AVal → T8 AVal → AH → R) (fun call L e H => doOp call .bad L e H) (fun n o x y _ L e H => notBadF (eqsV n o (evF x L e) (evF y L e)) H) (fun c o x y _ L e H => notBadF (cmpV c o (evF x L e) (evF y L e)) H) (fun x _ L e H => notBadF (lensOf (evF x L e)) H) (fun c a b _ L e H => notBadF (pickV (evF c L e) (evF a L e) (evF b L e)) H) (fun z ps _ L e H => notBadF (buildV L e z ps) H) (fun a b z ps _ L e H => mkR H (mkBlock L e (.bsl a b z ps) H.next)) (fun x _ L e H => notBadF (nilcV (evF x L e)) H) (fun o x _ L e H => notBadF (unV o (evF x L e)) H) (fun k x _ L e H => notBadF (convV k (evF x L e)) H) (fun f cs _ L e H => .ok (.fnv f (evsF cs L e)) H) (fun a b z x y _ L e H => mkR H (mkBlock L e (.mksl a b z x y) H.next)) (fun a x l h _ L e H => notBadF (slcO a (evF x L e) (l.map (·.ev L e)) (h.map (·.ev L e))) H) (fun a o s x _ L e H => notBadF (fldV a o s (evF x L e)) H) (fun l s x i _ L e H => notBadF (iaddrAV l s (evF x L e) (evF i L e)) H) (fun a l s x i _ L e H => notBadF (idxAV a l s (evF x L e) (evF i L e)) H) (fun x i _ L e H => notBadF (idxSV (evF x L e) (evF i L e)) H) (fun x _ L e H => notBadF (lenOf (evF x L e)) H) (fun a b s x _ L e H => Option.rec (motive := fun _ => _) .no (fun new => appendV H a b (evF s L e) new) (elemsOf H a (evF x L e))) (fun a d s _ L e H => Option.rec (motive := fun _ => _) .no (fun new => copyV H a (evF d L e) new) (elemsOf H a (evF s L e))) (fun xs _ L e H => notBadF (maxV (evsF xs L e)) H) (fun xs _ L e H => notBadF (minV (evsF xs L e)) H) (fun x i _ L e H => notBadF (extractV (evF x L e) i) H) (fun f xs call L e H => call (evF f L e) (evsF xs L e) H) (fun _ L e H => mkR H (mkBlock L e .mkmap H.next)) (fun z k m x _ L e H => notBadF (lookupV H z k (evF m L e) (evF x L e)) H) (fun m k v _ L e H => mapupV H (evF m L e) (evF k L e) (evF v L e)) (fun f xs call L e H => call (.fnv f []) (evsF xs L e) H) (fun s x i _ L e H => notBadF (iaddrF s (evF x L e) (evF i L e)) H) (fun o x _ L e H => notBadF (faddrF o (evF x L e)) H) (fun x _ L e H => boxF (evF x L e) H) (fun s x v _ L e H => storeF s (evF x L e) (evF v L e) H) (fun a s x _ L e H => notBadF (loadF a s (evF x L e) H) H) (fun o x y _ L e H => notBadF (binF o (evF x L e) (evF y L e)) H) (fun x _ L e H => notBadF (evF x L e) H) op
theorem doF_eq (op : COp) (call : Caller) (L : List AVal) (e : T8 AVal) (H : AH) : doF op call L e H = doOp call op L e H := by
  cases op with
  | append a b s x => simp only [doF, doOp, evF_eq]; cases elemsOf H a (x.ev L e) <;> rfl
  | copy a d s => simp only [doF, doOp, evF_eq]; cases elemsOf H a (s.ev L e) <;> rfl
  | mkfn f cs => simp only [doF, doOp, evsF_eq, pureV, notBad]
  | _ => simp only [doF, doOp, pureV, notBadF_eq, evF_eq, evsF_eq, iaddrF_eq, faddrF_eq, boxF_eq, storeF_eq, loadF_eq, binF_eq, mkBlock]

noncomputable def wantsF (g : COpd × Bool) (L : List AVal) (e : T8 AVal) : Want := Prod.rec (motive := fun _ => Want) (fun x b => (fun v => match v with
    | .bool c => Bool.rec (motive := fun _ => Want) .skip .go (boolEq c b)
    | .tup [] => .skip
    | _ => .no) (evF x L e)) g
theorem wantsF_eq (g : COpd × Bool) (L : List AVal) (e : T8 AVal) : wantsF g L e = wants L e (some g) := by
  obtain ⟨x, b⟩ := g
  simp only [wantsF, wants, evF_eq]
  cases x.ev L e with
  | bool c => simp only; cases boolEq c b <;> rfl
  | tup l => cases l <;> rfl
  | _ => rfl

def KOps : Type := Caller → List AVal → T8 AVal → AH → OutL
noncomputable def dstF (d : Dst) : AVal → AH → KOps → Caller → List AVal → T8 AVal → OutL :=
  Dst.rec (motive := fun _ => AVal → AH → KOps → Caller → List AVal → T8 AVal → OutL)
    (fun _ H k call L e => k call L e H)
    (fun p v H k call L e => k call L (putA v p e) H)
    (fun v H k call L e => k call (v :: L) e H) d
theorem dstF_eq (d : Dst) (v : AVal) (H : AH) (k : KOps) (call : Caller) (L : List AVal) (e : T8 AVal) : dstF d v H k call L e = k call (setL L d v) (setE e d v) H := by
  cases d <;> first | rfl | (simp only [dstF, putA_eq]; rfl)
noncomputable def goF (d : Dst) (op : COp) (k : KOps) (call : Caller) (L : List AVal) (e : T8 AVal) (H : AH) : OutL :=
  R.rec (motive := fun _ => Dst → KOps → Caller → List AVal → T8 AVal → OutL) (fun _ _ _ _ _ => .none) (fun v H d k call L e => dstF d v H k call L e) (doF op call L e H) d k call L e
noncomputable def guardF (d : Dst) (op : COp) (k : KOps) (call : Caller) (L : List AVal) (e : T8 AVal) (H : AH) (g : COpd × Bool) : OutL :=
  Want.rec (motive := fun _ => Dst → COp → KOps → Caller → List AVal → T8 AVal → AH → OutL) (fun _ _ _ _ _ _ _ => .none) (fun d _ k call L e H => dstF d undefV H k call L e) (fun d op k call L e H => goF d op k call L e H) (wantsF g L e) d op k call L e H
noncomputable def opF (o : CO) (k : KOps) (call : Caller) (L : List AVal) (e : T8 AVal) (H : AH) : OutL :=
  CO.rec (motive := fun _ => KOps → Caller → List AVal → T8 AVal → AH → OutL)
    (fun d op g k call L e H => Option.rec (motive := fun _ => Dst → COp → KOps → Caller → List AVal → T8 AVal → AH → OutL) (fun d op k call L e H => goF d op k call L e H) (fun g d op k call L e H => guardF d op k call L e H g) g d op k call L e H) o k call L e H
/-- go on with a value on the list -/
noncomputable def pushF (v : AVal) (k : KOps) (call : Caller) (L : List AVal) (e : T8 AVal) (H : AH) : OutL :=
  AVal.rec (motive_1 := fun _ => KOps → Caller → List AVal → T8 AVal → AH → OutL) (motive_2 := fun _ => Unit) (fun _ _ _ _ _ => .none) (fun k call L e H => k call (.pnil :: L) e H) (fun k call L e H => k call (.se :: L) e H) (fun k call L e H => k call (.snil :: L) e H) (fun k call L e H => k call (.fnil :: L) e H) (fun k call L e H => k call (.mnil :: L) e H) (fun a0 k call L e H => k call ((.opq a0) :: L) e H) (fun a0 k call L e H => k call ((.yld a0) :: L) e H) (fun a0 k call L e H => k call ((.str a0) :: L) e H) (fun a0 k call L e H => k call ((.map a0) :: L) e H) (fun a0 a1 _ k call L e H => k call ((.fnv a0 a1) :: L) e H) (fun a0 _ k call L e H => k call ((.tup a0) :: L) e H) (fun a0 _ k call L e H => k call ((.agg a0) :: L) e H) (fun a0 a1 a2 a3 k call L e H => k call ((.sg a0 a1 a2 a3) :: L) e H) (fun a0 a1 a2 a3 k call L e H => k call ((.sl a0 a1 a2 a3) :: L) e H) (fun a0 a1 k call L e H => k call ((.ptr a0 a1) :: L) e H) (fun a0 k call L e H => k call ((.bool a0) :: L) e H) (fun a0 a1 k call L e H => k call ((.int a0 a1) :: L) e H)
    () (fun _ _ _ _ => ()) v k call L e H
noncomputable def pushRF (r : R) (k : KOps) (call : Caller) (L : List AVal) (e : T8 AVal) : OutL :=
  R.rec (motive := fun _ => KOps → Caller → List AVal → T8 AVal → OutL) (fun _ _ _ _ => .none) (fun v H k call L e => k call (v :: L) e H) r k call L e
noncomputable def dropRF (r : R) (k : KOps) (call : Caller) (L : List AVal) (e : T8 AVal) : OutL :=
  R.rec (motive := fun _ => KOps → Caller → List AVal → T8 AVal → OutL) (fun _ _ _ _ => .none) (fun _ H k call L e => k call L e H) r k call L e
noncomputable def slotF (v : AVal) (q : Pth) (k : KOps) (call : Caller) (L : List AVal) (e : T8 AVal) (H : AH) : OutL :=
  AVal.rec (motive_1 := fun _ => Pth → KOps → Caller → List AVal → T8 AVal → AH → OutL) (motive_2 := fun _ => Unit) (fun _ _ _ _ _ _ => .none) (fun q k call L e H => k call L (putA .pnil q e) H) (fun q k call L e H => k call L (putA .se q e) H) (fun q k call L e H => k call L (putA .snil q e) H) (fun q k call L e H => k call L (putA .fnil q e) H) (fun q k call L e H => k call L (putA .mnil q e) H) (fun a0 q k call L e H => k call L (putA (.opq a0) q e) H) (fun a0 q k call L e H => k call L (putA (.yld a0) q e) H) (fun a0 q k call L e H => k call L (putA (.str a0) q e) H) (fun a0 q k call L e H => k call L (putA (.map a0) q e) H) (fun a0 a1 _ q k call L e H => k call L (putA (.fnv a0 a1) q e) H) (fun a0 _ q k call L e H => k call L (putA (.tup a0) q e) H) (fun a0 _ q k call L e H => k call L (putA (.agg a0) q e) H) (fun a0 a1 a2 a3 q k call L e H => k call L (putA (.sg a0 a1 a2 a3) q e) H) (fun a0 a1 a2 a3 q k call L e H => k call L (putA (.sl a0 a1 a2 a3) q e) H) (fun a0 a1 q k call L e H => k call L (putA (.ptr a0 a1) q e) H) (fun a0 q k call L e H => k call L (putA (.bool a0) q e) H) (fun a0 a1 q k call L e H => k call L (putA (.int a0 a1) q e) H)
    () (fun _ _ _ _ => ()) v q k call L e H
noncomputable def runF (l : Ops) : KOps :=
  Ops.rec (motive := fun _ => KOps) (fun _ L e H => .ok L e H)
    (fun o _ ih call L e H => opF o ih call L e H)
    (fun c x _ ih call L e H => pushF (convV c (evF x L e)) ih call L e H)
    (fun x _ ih call L e H => pushF (lenOf (evF x L e)) ih call L e H)
    (fun x i _ ih call L e H => pushF (extractV (evF x L e) i) ih call L e H)
    (fun f xs _ ih call L e H => pushRF (call (.fnv f []) (evsF xs L e) H) ih call L e)
    (fun sz x v _ ih call L e H => dropRF (storeF sz (evF x L e) (evF v L e) H) ih call L e)
    (fun s x i _ ih call L e H => pushF (iaddrF s (evF x L e) (evF i L e)) ih call L e H)
    (fun o x _ ih call L e H => pushF (faddrF o (evF x L e)) ih call L e H)
    (fun a s x _ ih call L e H => pushF (loadF a s (evF x L e) H) ih call L e H)
    (fun q x _ ih call L e H => slotF (evF x L e) q ih call L e H)
    (fun o x y _ ih call L e H => pushF (binF o (evF x L e) (evF y L e)) ih call L e H) l
theorem pushF_eq (v : AVal) (k : KOps) (call : Caller) (L : List AVal) (e : T8 AVal) (H : AH) : pushF v k call L e H = (match notBad v H with | .ok v H' => k call (v :: L) e H' | .no => .none) := by
  cases v <;> rfl
theorem slotF_eq (v : AVal) (q : Pth) (k : KOps) (call : Caller) (L : List AVal) (e : T8 AVal) (H : AH) : slotF v q k call L e H = (match notBad v H with | .ok v H' => k call L (e.put .bad v q) H' | .no => .none) := by
  cases v <;> first | rfl | (simp only [slotF, putA_eq]; rfl)
theorem pushRF_eq (r : R) (k : KOps) (call : Caller) (L : List AVal) (e : T8 AVal) : pushRF r k call L e = (match r with | .ok v H' => k call (v :: L) e H' | .no => .none) := by
  cases r <;> rfl
theorem dropRF_eq (r : R) (k : KOps) (call : Caller) (L : List AVal) (e : T8 AVal) : dropRF r k call L e = (match r with | .ok _ H' => k call L e H' | .no => .none) := by
  cases r <;> rfl
theorem goF_eq (d : Dst) (op : COp) (l : List CO) (k : KOps) (hk : ∀ call L e H, k call L e H = runOps call l L e H) (call : Caller) (L : List AVal) (e : T8 AVal) (H : AH) :
    goF d op k call L e H = (match doOp call op L e H with | .ok v H' => runOps call l (setL L d v) (setE e d v) H' | .no => .none) := by
  unfold goF
  rw [doF_eq]
  cases doOp call op L e H with
  | no => rfl
  | ok v H' => show dstF d v H' k call L e = _; rw [dstF_eq, hk]
theorem opF_eq (o : CO) (l : List CO) (k : KOps) (hk : ∀ call L e H, k call L e H = runOps call l L e H) (call : Caller) (L : List AVal) (e : T8 AVal) (H : AH) : opF o k call L e H = runOps call (o :: l) L e H := by
  obtain ⟨d, op, g⟩ := o
  cases g with
  | none => exact goF_eq d op l k hk call L e H
  | some g =>
    show guardF d op k call L e H g = _
    unfold guardF runOps
    rw [wantsF_eq]
    cases wants L e (some g) with
    | no => rfl
    | skip => show dstF d undefV H k call L e = _; rw [dstF_eq, hk]
    | go => exact goF_eq d op l k hk call L e H
theorem runF_eq (l : Ops) (call : Caller) (L : List AVal) (e : T8 AVal) (H : AH) : runF l call L e H = runOps call l.toL L e H := by
  induction l generalizing L e H call with
  | fin => rfl
  | gen o k ih => exact opF_eq o k.toL (runF k) ih call L e H
  | pcv c x k ih => show pushF (convV c (evF x L e)) (runF k) call L e H = _; rw [pushF_eq, evF_eq]; simp only [ih]; rfl
  | pln x k ih => show pushF (lenOf (evF x L e)) (runF k) call L e H = _; rw [pushF_eq, evF_eq]; simp only [ih]; rfl
  | pex x i k ih => show pushF (extractV (evF x L e) i) (runF k) call L e H = _; rw [pushF_eq, evF_eq]; simp only [ih]; rfl
  | pca f xs k ih => show pushRF (call (.fnv f []) (evsF xs L e) H) (runF k) call L e = _; rw [pushRF_eq, evsF_eq]; simp only [ih]; rfl
  | st sz x v k ih => show dropRF (storeF sz (evF x L e) (evF v L e) H) (runF k) call L e = _; rw [dropRF_eq, storeF_eq, evF_eq, evF_eq]; simp only [ih]; rfl
  | pia s x i k ih => show pushF (iaddrF s (evF x L e) (evF i L e)) (runF k) call L e H = _; rw [pushF_eq, iaddrF_eq, evF_eq, evF_eq]; simp only [ih]; rfl
  | pfa o x k ih => show pushF (faddrF o (evF x L e)) (runF k) call L e H = _; rw [pushF_eq, faddrF_eq, evF_eq]; simp only [ih]; rfl
  | pld a s x k ih => show pushF (loadF a s (evF x L e) H) (runF k) call L e H = _; rw [pushF_eq, loadF_eq, evF_eq]; simp only [ih]; rfl
  | sm q x k ih => show slotF (evF x L e) q (runF k) call L e H = _; rw [slotF_eq, evF_eq]; simp only [ih]; rfl
  | pb o x y k ih => show pushF (binF o (evF x L e) (evF y L e)) (runF k) call L e H = _; rw [pushF_eq, binF_eq, evF_eq, evF_eq]; simp only [ih]; rfl

/-! ### code -/
section
variable (F : T8 CFn)

noncomputable def finishF (fn : CFn) (o : Out) : R :=
  Out.rec (motive := fun _ => CFn → R) (fun _ => .no) (fun e H fn => result H e fn.res) (fun _ _ _ _ => .no) (fun e H fn => result H e fn.res) o fn
theorem finishF_eq (fn : CFn) (o : Out) : finishF fn o = finish fn o := by cases o <;> rfl

noncomputable def mkEnvF (ps : List (Option Pth)) : List AVal → T8 AVal → Option (T8 AVal) :=
  List.rec (motive := fun _ => List AVal → T8 AVal → Option (T8 AVal)) (fun vs e => List.rec (motive := fun _ => _) (some e) (fun _ _ _ => none) vs)
    (fun p _ ih vs e => List.rec (motive := fun _ => _) none (fun v vs _ => Option.rec (motive := fun _ => (List AVal → T8 AVal → Option (T8 AVal)) → AVal → List AVal → T8 AVal → Option (T8 AVal)) (fun ih _ vs e => ih vs e) (fun p ih v vs e => ih vs (putA v p e)) p ih v vs e) vs) ps
theorem mkEnvF_eq (ps : List (Option Pth)) (vs : List AVal) (e : T8 AVal) : mkEnvF ps vs e = mkEnv ps vs e := by
  induction ps generalizing vs e with
  | nil => cases vs <;> rfl
  | cons p ps ih =>
    cases vs with
    | nil => cases p <;> rfl
    | cons v vs => cases p with
      | none => exact ih vs e
      | some p => show mkEnvF ps vs (putA v p e) = _; rw [ih, putA_eq]; rfl

noncomputable def enterF (fn : CFn) (x : CC → T8 AVal → AH → Out) (args : List AVal) (H : AH) : R :=
  CFn.rec (motive := fun _ => (CC → T8 AVal → AH → Out) → List AVal → AH → R) (fun ps body res orc x args H => List.rec (motive := fun _ => List Orc → R) (fun _ => Option.rec (motive := fun _ => _) .no (fun e0 => finishF ⟨ps, body, res, []⟩ (x body e0 H)) (mkEnvF ps args .nil)) (fun _ _ _ orc => R.rec (motive := fun _ => R) (Option.rec (motive := fun _ => _) .no (fun e0 => finishF ⟨ps, body, res, []⟩ (x body e0 H)) (mkEnvF ps args .nil)) (fun v H' => .ok v H') (useOrc orc args H)) orc orc) fn x args H
theorem enterF_eq (fn : CFn) (x : CC → T8 AVal → AH → Out) (args : List AVal) (H : AH) : enterF fn x args H = (match useOrc fn.orc args H with | .ok v H' => .ok v H' | .no => match mkEnv fn.params args .nil with | some e0 => finish fn (x fn.body e0 H) | none => .no) := by
  obtain ⟨ps, body, res, orc⟩ := fn
  simp only [enterF, mkEnvF_eq, finishF_eq]
  have fin : ∀ o, finish ⟨ps, body, res, []⟩ o = finish ⟨ps, body, res, orc⟩ o := fun o => by cases o <;> rfl
  cases orc with
  | nil => simp only [useOrc]; cases mkEnv ps args .nil <;> rfl
  | cons o orc =>
    simp only
    cases useOrc (o :: orc) args H with
    | ok v H' => rfl
    | no => simp only; cases mkEnv ps args .nil <;> first | rfl | exact fin _

noncomputable def callerF (x : CC → T8 AVal → AH → Out) : Caller := fun g args H =>
  AVal.rec (motive_1 := fun _ => (CC → T8 AVal → AH → Out) → AVal → List AVal → AH → R) (motive_2 := fun _ => Unit) (fun x g args H => caller F x g args H) (fun x g args H => caller F x g args H) (fun x g args H => caller F x g args H) (fun x g args H => caller F x g args H) (fun x g args H => caller F x g args H) (fun x g args H => caller F x g args H) (fun _ x g args H => caller F x g args H) (fun _ x g args H => caller F x g args H) (fun _ x g args H => caller F x g args H) (fun _ x g args H => caller F x g args H) (fun f caps _ x _ args H => enterF (getF noFn f F) x (List.rec (motive := fun _ => _) args (fun c cs _ => app args (c :: cs)) caps) H) (fun _ _ x g args H => caller F x g args H) (fun _ _ x g args H => caller F x g args H) (fun _ _ _ _ x g args H => caller F x g args H) (fun _ _ _ _ x g args H => caller F x g args H) (fun _ _ x g args H => caller F x g args H) (fun _ x g args H => caller F x g args H) (fun _ _ x g args H => caller F x g args H) () (fun _ _ _ _ => ()) g x g args H
theorem app_nil (l : List AVal) : app l [] = l := by induction l with
  | nil => rfl
  | cons a l ih => show a :: app l [] = _; rw [ih]
theorem callerF_eq (x : CC → T8 AVal → AH → Out) (g : AVal) (args : List AVal) (H : AH) : callerF F x g args H = caller F x g args H := by
  cases g with
  | fnv f caps =>
    show enterF (getF noFn f F) x _ H = _
    rw [getF_eq, enterF_eq]
    cases caps with
    | nil => show (match useOrc _ args H with | .ok v H' => _ | .no => match mkEnv _ args .nil with | some e0 => _ | none => _) = (match useOrc _ (app args []) H with | .ok v H' => _ | .no => match mkEnv _ (app args []) .nil with | some e0 => _ | none => _); rw [app_nil]
    | cons c cs => rfl
  | _ => rfl

noncomputable def condF (v : AVal) (x : CC → T8 AVal → AH → Out) (a b : CC) (e : T8 AVal) (H : AH) : Out :=
  AVal.rec (motive_1 := fun _ => (CC → T8 AVal → AH → Out) → CC → CC → T8 AVal → AH → Out) (motive_2 := fun _ => Unit) (fun _ _ _ _ _ => .none) (fun _ _ _ _ _ => .none) (fun _ _ _ _ _ => .none) (fun _ _ _ _ _ => .none) (fun _ _ _ _ _ => .none) (fun _ _ _ _ _ => .none) (fun _ _ _ _ _ _ => .none) (fun _ _ _ _ _ _ => .none) (fun _ _ _ _ _ _ => .none) (fun _ _ _ _ _ _ => .none) (fun _ _ _ _ _ _ _ _ => .none) (fun _ _ _ _ _ _ _ => .none) (fun _ _ _ _ _ _ _ => .none) (fun _ _ _ _ _ _ _ _ _ => .none) (fun _ _ _ _ _ _ _ _ _ => .none) (fun _ _ _ _ _ _ _ => .none) (fun t x a b e H => Bool.rec (x b e H) (x a e H) t) (fun _ _ _ _ _ _ _ => .none) () (fun _ _ _ _ => ()) v x a b e H
theorem condF_eq (v : AVal) (x : CC → T8 AVal → AH → Out) (a b : CC) (e : T8 AVal) (H : AH) : condF v x a b e H = (match v with | .bool t => bif t then x a e H else x b e H | _ => .none) := by
  cases v <;> first | rfl | (rename_i t; cases t <;> rfl)

noncomputable def execSF (x : CC → T8 AVal → AH → Out) (c : CC) (e : T8 AVal) (H : AH) : Out :=
  CC.rec (motive := fun _ => T8 CFn → (CC → T8 AVal → AH → Out) → T8 AVal → AH → Out) (fun _ _ _ _ => .none) (fun f ps as bd _ _ F x e H => execS F x (.rangeF f ps as bd) e H) (fun ops F x e H => runD (callerF F x) ops e (reserve ops H) H.next 0 [] [reserve ops H] []) (fun c a b _ _ _ x e H => condF (evF c [] e) x a b e H) (fun _ _ e H => .ret e H) (fun _ _ e H => .norm e H) (fun id b _ _ x e H => Out.rec (motive := fun _ => Nat → Out) (fun _ => .none) (fun e H _ => .ret e H) (fun i e H id => Bool.rec (.exit i e H) (.norm e H) (Nat.beq id i)) (fun e H _ => .norm e H) (x b e H) id) (fun b _ _ x e H => Out.rec (motive := fun _ => (CC → T8 AVal → AH → Out) → CC → Out) (fun _ _ => .none) (fun e H _ _ => .ret e H) (fun i e H _ _ => .exit i e H) (fun e H x b => x (.loop b) e H) (x b e H) x b) (fun id _ _ e H => .exit id e H) (fun ops c a b _ _ F x e H => OutL.rec (motive := fun _ => (CC → T8 AVal → AH → Out) → COpd → CC → CC → Out) (fun _ _ _ _ => .none) (fun L e H x c a b => condF (evF c L e) x a b e H) (runF ops (callerF F x) [] e H) x c a b) (fun ops F x e H => OutL.rec (motive := fun _ => _) .none (fun _ e H => .norm e H) (runF ops (callerF F x) [] e H)) (fun a b _ _ _ x e H => Out.rec (motive := fun _ => (CC → T8 AVal → AH → Out) → CC → Out) (fun _ _ => .none) (fun e H _ _ => .ret e H) (fun i e H _ _ => .exit i e H) (fun e H x b => x b e H) (x a e H) x b) c F x e H
theorem execSF_eq (x : CC → T8 AVal → AH → Out) (c : CC) (e : T8 AVal) (H : AH) : execSF F x c e H = execS F x c e H := by
  have hc : callerF F x = caller F x := funext fun g => funext fun a => funext fun H => callerF_eq F x g a H
  cases c with
  | regd ops => simp only [execSF, execS, hc]
  | cond c a b => simp only [execSF, execS, evF_eq, condF_eq] <;> rfl
  | block id b =>
    simp only [execSF, execS]
    cases x b e H with
    | exit i e H => dsimp only; cases Nat.beq id i <;> rfl
    | _ => rfl
  | loop b => simp only [execSF, execS]; cases x b e H <;> rfl
  | regc ops c a b =>
    simp only [execSF, execS, hc, runF_eq]
    cases runOps (caller F x) ops.toL [] e H with
    | none => rfl
    | ok L e H => simp only [evF_eq, condF_eq] <;> rfl
  | reg ops => simp only [execSF, execS, hc, runF_eq]; cases runOps (caller F x) ops.toL [] e H <;> rfl
  | seq a b => simp only [execSF, execS]; cases x a e H <;> rfl
  | _ => rfl

noncomputable def execF (n : Nat) : CC → T8 AVal → AH → Out := Nat.rec (motive := fun _ => CC → T8 AVal → AH → Out) (fun _ _ _ => .none) (fun _ ih => execSF F ih) n
theorem execF_eq (n : Nat) : execF F n = exec F n := by
  induction n with
  | zero => rfl
  | succ n ih =>
    funext c e H
    show execSF F (execF F n) c e H = execS F (exec F n) c e H
    rw [ih, execSF_eq]

noncomputable def callFF (n : Nat) (f : Pth) (args : List AVal) (H : AH) : R := enterF (getF noFn f F) (execF F n) args H
theorem callFF_eq (n : Nat) (f : Pth) (args : List AVal) (H : AH) : callFF F n f args H = callF F n f args H := by
  show enterF (getF noFn f F) (execF F n) args H = (match useOrc _ (app args []) H with | .ok v H' => _ | .no => match mkEnv _ (app args []) .nil with | some e0 => _ | none => _)
  rw [getF_eq, enterF_eq, execF_eq, app_nil]
end
end Go.Ex

set_option linter.unusedVariables false
namespace Go.Ex

/-! ### further forms for the kernel -/
noncomputable def optF (o : Option COpd) (L : List AVal) (e : T8 AVal) : Option AVal := Option.rec (motive := fun _ => Option AVal) none (fun x => some (evF x L e)) o
theorem optF_eq (o : Option COpd) (L : List AVal) (e : T8 AVal) : optF o L e = o.map (·.ev L e) := by cases o <;> simp [optF, evF_eq]
noncomputable def lenG (l : List AVal) : Nat → Bool := List.rec (motive := fun _ => Nat → Bool) (fun n => Nat.beq n 0) (fun _ _ ih n => Bool.rec (motive := fun _ => Bool) (ih (Nat.pred n)) false (Nat.beq n 0)) l
theorem lenG_eq (l : List AVal) (n : Nat) : lenG l n = lenIs l n := by
  induction l generalizing n with
  | nil => rfl
  | cons a l ih =>
    show Bool.rec (motive := fun _ => Bool) (lenG l (Nat.pred n)) false (Nat.beq n 0) = _
    rw [ih]
    simp only [lenIs]
    cases Nat.beq n 0 <;> rfl
noncomputable def takeG (n : Nat) : List AVal → Option (List AVal) :=
  Nat.rec (motive := fun _ => List AVal → Option (List AVal)) (fun _ => some []) (fun _ ih l => List.rec (motive := fun _ => _) none (fun a l _ => Option.rec (motive := fun _ => _) none (fun r => some (a :: r)) (ih l)) l) n
theorem takeG_eq (n : Nat) (l : List AVal) : takeG n l = takeN n l := by
  induction n generalizing l with
  | zero => cases l <;> rfl
  | succ n ih => cases l with
    | nil => rfl
    | cons a l =>
      show Option.rec (motive := fun _ => Option (List AVal)) none (fun r => some (a :: r)) (takeG n l) = _
      rw [ih]
      simp only [takeN]
      cases takeN n l <;> rfl
noncomputable def dropG (n : Nat) : List AVal → List AVal :=
  Nat.rec (motive := fun _ => List AVal → List AVal) (fun l => l) (fun _ ih l => List.rec (motive := fun _ => _) [] (fun _ l _ => ih l) l) n
theorem dropG_eq (n : Nat) (l : List AVal) : dropG n l = dropN n l := by
  induction n generalizing l with
  | zero => cases l <;> rfl
  | succ n ih => cases l with
    | nil => rfl
    | cons a l => exact ih l
noncomputable def fldG (agg : Bool) (off sz : Nat) (x : AVal) : AVal := match x with
  | .agg l => single agg (takeG sz (dropG off l))
  | _ => .bad
theorem fldG_eq (agg : Bool) (off sz : Nat) (x : AVal) : fldG agg off sz x = fldV agg off sz x := by cases x <;> simp only [fldG, fldV, takeG_eq, dropG_eq]
noncomputable def buildG (L : List AVal) (e : T8 AVal) (z : List AVal) (ps : List (Nat × Nat × COpd)) : AVal :=
  List.rec (motive := fun _ => List AVal → AVal) (fun z => .agg z) (fun p _ ih z => Prod.rec (motive := fun _ => AVal) (fun off q => Prod.rec (motive := fun _ => AVal) (fun sz x =>
    Bool.rec (motive := fun _ => AVal) .bad (Bool.rec (motive := fun _ => AVal) .bad (Option.rec (motive := fun _ => AVal) .bad (fun z' => ih z') (overAt off (cellsOfF (evF x L e)) z)) (lenG (cellsOfF (evF x L e)) sz)) (Nat.blt 0 sz)) q) p) ps z
theorem buildG_eq (L : List AVal) (e : T8 AVal) (z : List AVal) (ps : List (Nat × Nat × COpd)) : buildG L e z ps = buildV L e z ps := by
  induction ps generalizing z with
  | nil => rfl
  | cons p ps ih =>
    obtain ⟨off, sz, x⟩ := p
    show Bool.rec (motive := fun _ => AVal) .bad (Bool.rec (motive := fun _ => AVal) .bad (Option.rec (motive := fun _ => AVal) .bad (fun z' => buildG L e z' ps) (overAt off (cellsOfF (evF x L e)) z)) (lenG (cellsOfF (evF x L e)) sz)) (Nat.blt 0 sz) = _
    rw [lenG_eq, cellsOfF_eq, evF_eq]
    simp only [buildV]
    cases Nat.blt 0 sz <;> cases lenIs (x.ev L e).cells sz <;> first | rfl | skip
    simp only [Bool.and_self, cond]
    cases overAt off (x.ev L e).cells z with
    | none => rfl
    | some z' => exact ih z'

noncomputable def pureG (op : COp) : List AVal → T8 AVal → AH → AVal :=
  COp.rec (motive := fun _ => List AVal → T8 AVal → AH → AVal) (fun _ _ _ => .bad) (fun neg offs x y L e H => eqsV neg offs (evF x L e) (evF y L e)) (fun cls op x y L e H => cmpV cls op (evF x L e) (evF y L e)) (fun x L e H => lensOf (evF x L e)) (fun c a b L e H => pickV (evF c L e) (evF a L e) (evF b L e)) (fun z parts L e H => buildG L e z parts) (fun esz len z parts _ _ _ => .bad) (fun x L e H => nilcV (evF x L e)) (fun op x L e H => unV op (evF x L e)) (fun k x L e H => convV k (evF x L e)) (fun f caps L e H => .fnv f (evsF caps L e)) (fun esz bytes z len cap _ _ _ => .bad) (fun esz x lo hi L e H => slcO esz (evF x L e) (optF lo L e) (optF hi L e)) (fun agg off sz x L e H => fldG agg off sz (evF x L e)) (fun len esz x i L e H => iaddrAV len esz (evF x L e) (evF i L e)) (fun agg len esz x i L e H => idxAV agg len esz (evF x L e) (evF i L e)) (fun x i L e H => idxSV (evF x L e) (evF i L e)) (fun x L e H => lenOf (evF x L e)) (fun esz bytes s x _ _ _ => .bad) (fun esz d s _ _ _ => .bad) (fun xs L e H => maxV (evsF xs L e)) (fun xs L e H => minV (evsF xs L e)) (fun x i L e H => extractV (evF x L e) i) (fun f args _ _ _ => .bad) (fun _ _ _ => .bad) (fun zero ok m k L e H => lookupV H zero ok (evF m L e) (evF k L e)) (fun m k v _ _ _ => .bad) (fun f args _ _ _ => .bad) (fun esz x i L e H => iaddrF esz (evF x L e) (evF i L e)) (fun off x L e H => faddrF off (evF x L e)) (fun x _ _ _ => .bad) (fun sz x v _ _ _ => .bad) (fun agg sz x L e H => loadF agg sz (evF x L e) H) (fun op x y L e H => binF op (evF x L e) (evF y L e)) (fun x L e H => (evF x L e)) op
theorem pureG_eq (op : COp) (L : List AVal) (e : T8 AVal) (H : AH) : pureG op L e H = pureV op L e H := by
  cases op <;> simp only [pureG, pureV, evF_eq, evsF_eq, iaddrF_eq, faddrF_eq, loadF_eq, binF_eq, optF_eq, buildG_eq, fldG_eq]

noncomputable def setEG (e : T8 AVal) (d : Dst) (v : AVal) : T8 AVal := Dst.rec (motive := fun _ => AVal → T8 AVal → T8 AVal) (fun _ e => e) (fun p v e => putA v p e) (fun _ e => e) d v e
theorem setEG_eq (e : T8 AVal) (d : Dst) (v : AVal) : setEG e d v = setE e d v := by cases d <;> simp only [setEG, setE, putA_eq]
noncomputable def wantsG (g : COpd × Bool) (e : T8 AVal) : Want := Prod.rec (motive := fun _ => Want) (fun x b => (fun v => match v with
    | .bool c => Bool.rec (motive := fun _ => Want) .skip .go (boolEq c b)
    | .tup [] => .skip
    | _ => .no) (evF x [] e)) g
theorem wantsG_eq (g : COpd × Bool) (e : T8 AVal) : wantsG g e = wants [] e (some g) := by
  obtain ⟨x, b⟩ := g
  simp only [wantsG, wants, evF_eq]
  cases x.ev [] e with
  | bool c => simp only; cases boolEq c b <;> rfl
  | tup l => cases l <;> rfl
  | _ => rfl

noncomputable def absorbG (s : Nat) (pend : List Pend) : AH → AH := List.rec (motive := fun _ => AH → AH) (fun H => H) (fun p _ ih H => Pend.rec (motive := fun _ => AH) (fun hi id obj => Bool.rec (motive := fun _ => AH) (ih H) (ih (setHF H id obj)) (Nat.beq hi s)) p) pend
theorem absorbG_eq (s : Nat) (pend : List Pend) (H : AH) : absorbG s pend H = absorb s pend H := by
  induction pend generalizing H with
  | nil => rfl
  | cons p pend ih =>
    obtain ⟨hi, id, obj⟩ := p
    show Bool.rec (motive := fun _ => AH) (absorbG s pend H) (absorbG s pend (setHF H id obj)) (Nat.beq hi s) = _
    rw [ih, ih, setHF_eq]
    simp only [absorb]
    cases Nat.beq hi s <;> rfl
noncomputable def absorbAllG (pend : List Pend) : AH → AH := List.rec (motive := fun _ => AH → AH) (fun H => H) (fun p _ ih H => Pend.rec (motive := fun _ => AH) (fun _ id obj => ih (setHF H id obj)) p) pend
theorem absorbAllG_eq (pend : List Pend) (H : AH) : absorbAllG pend H = absorbAll pend H := by
  induction pend generalizing H with
  | nil => rfl
  | cons p pend ih =>
    obtain ⟨hi, id, obj⟩ := p
    show absorbAllG pend (setHF H id obj) = _
    rw [ih, setHF_eq]; rfl
noncomputable def reserveN (l : List (CO × Dw)) : Pth → Pth := List.rec (motive := fun _ => Pth → Pth) (fun p => p) (fun x _ ih p => Prod.rec (motive := fun _ => Pth) (fun _ d => Dw.rec (motive := fun _ => Pth) (fun k _ _ => Bool.rec (motive := fun _ => Pth) (ih p) (ih p.succ) (Nat.beq k 2)) d) x) l
noncomputable def reserveG (l : List (CO × Dw)) (H : AH) : AH := AH.rec (motive := fun _ => AH) (fun n m => ⟨reserveN l n, m⟩) H
theorem reserveG_eq (l : List (CO × Dw)) (H : AH) : reserveG l H = reserve l H := by
  induction l generalizing H with
  | nil => rfl
  | cons x l ih =>
    obtain ⟨o, k, lo, hi⟩ := x
    obtain ⟨n, m⟩ := H
    show (⟨Bool.rec (motive := fun _ => Pth) (reserveN l n) (reserveN l n.succ) (Nat.beq k 2), m⟩ : AH) = _
    simp only [reserve]
    cases Nat.beq k 2 with
    | false => exact ih ⟨n, m⟩
    | true => exact ih ⟨n.succ, m⟩

/-- an operation of a region that draws, carried out -/
noncomputable def goD (call : Caller) (op : COp) (dst : Dst) (kind lo hi : Nat) (ih : T8 AVal → AH → Pth → Nat → List Pend → List AH → List Rd → Out) (e : T8 AVal) (H : AH) (ids : Pth) (s : Nat) (pend : List Pend) (hs : List AH) (rds : List Rd) : Out :=
  Nat.rec (motive := fun _ => Out) (R.rec (motive := fun _ => Out) .none (fun v _ => ih (setEG e dst v) H ids s pend hs rds) (notBadF (pureG op [] e ⟨.e, .nil⟩) H))
    (fun k _ => Nat.rec (motive := fun _ => Out) (R.rec (motive := fun _ => Out) .none (fun v _ => ih (setEG e dst v) H ids s pend hs (Bool.rec (motive := fun _ => List Rd) (⟨lo, hi, fixRd e op, v⟩ :: rds) rds (Nat.beq lo hi))) (notBadF (pureG op [] e H) H))
      (fun k _ => Nat.rec (motive := fun _ => Out) (Option.rec (motive := fun _ => Out) .none (fun p => Prod.rec (motive := fun _ => Out) (fun ob v => ih (setEG e dst v) H ids.succ s (⟨hi, ids, ob⟩ :: pend) hs rds) p) (mkBlock [] e op ids))
        (fun _ _ => R.rec (motive := fun _ => Out) .none (fun v H' => ih (setEG e dst v) H' ids (Nat.succ s) (keepP s pend) (H' :: hs) rds) (doF op call [] e (absorbG s pend H))) k) k) kind
noncomputable def skipD (dst : Dst) (kind : Nat) (ih : T8 AVal → AH → Pth → Nat → List Pend → List AH → List Rd → Out) (e : T8 AVal) (H : AH) (ids : Pth) (s : Nat) (pend : List Pend) (hs : List AH) (rds : List Rd) : Out :=
  Bool.rec (motive := fun _ => Out) (ih (setEG e dst undefV) H ids s pend hs rds) (ih (setEG e dst undefV) (absorbG s pend H) ids (Nat.succ s) (keepP s pend) (absorbG s pend H :: hs) rds) (Nat.beq kind 3)
noncomputable def runDG (call : Caller) (l : List (CO × Dw)) : T8 AVal → AH → Pth → Nat → List Pend → List AH → List Rd → Out :=
  List.rec (motive := fun _ => T8 AVal → AH → Pth → Nat → List Pend → List AH → List Rd → Out)
    (fun e H _ s pend hs rds => Bool.rec (motive := fun _ => Out) .none (.norm e (absorbAllG pend H)) (checkRds hs s rds))
    (fun x _ ih e H ids s pend hs rds => Prod.rec (motive := fun _ => Out) (fun o d => CO.rec (motive := fun _ => Out) (fun dst op g => Dw.rec (motive := fun _ => Out) (fun kind lo hi =>
      Option.rec (motive := fun _ => Out) (goD call op dst kind lo hi ih e H ids s pend hs rds) (fun gd => Want.rec (motive := fun _ => Out) .none (skipD dst kind ih e H ids s pend hs rds) (goD call op dst kind lo hi ih e H ids s pend hs rds) (wantsG gd e)) g) d) o) x) l
theorem goD_eq (call : Caller) (o : CO) (d : Dw) (l : List (CO × Dw)) (ih : T8 AVal → AH → Pth → Nat → List Pend → List AH → List Rd → Out) (hi : ∀ e H ids s pend hs rds, ih e H ids s pend hs rds = runD call l e H ids s pend hs rds) (e : T8 AVal) (H : AH) (ids : Pth) (s : Nat) (pend : List Pend) (hs : List AH) (rds : List Rd) :
    goD call o.op o.dst d.kind d.lo d.hi ih e H ids s pend hs rds = (match d.kind with
      | 0 => match notBad (pureV o.op [] e ⟨.e, .nil⟩) H with
        | .ok v _ => runD call l (setE e o.dst v) H ids s pend hs rds
        | .no => .none
      | 1 => match notBad (pureV o.op [] e H) H with
        | .ok v _ => runD call l (setE e o.dst v) H ids s pend hs (bif Nat.beq d.lo d.hi then rds else ⟨d.lo, d.hi, fixRd e o.op, v⟩ :: rds)
        | .no => .none
      | 2 => match mkBlock [] e o.op ids with
        | some (ob, v) => runD call l (setE e o.dst v) H ids.succ s (⟨d.hi, ids, ob⟩ :: pend) hs rds
        | none => .none
      | _ => match doOp call o.op [] e (absorb s pend H) with
        | .ok v H' => runD call l (setE e o.dst v) H' ids (Nat.succ s) (keepP s pend) (H' :: hs) rds
        | .no => .none) := by
  obtain ⟨dst, op, g⟩ := o
  obtain ⟨kind, lo, hi'⟩ := d
  simp only [goD, hi, pureG_eq, notBadF_eq, setEG_eq, doF_eq, absorbG_eq]
  match kind with
  | 0 => simp only; cases notBad (pureV op [] e ⟨.e, .nil⟩) H <;> rfl
  | 1 =>
    simp only
    cases notBad (pureV op [] e H) H with
    | no => rfl
    | ok v H' => cases Nat.beq lo hi' <;> rfl
  | 2 => simp only; cases mkBlock [] e op ids <;> rfl
  | k + 3 => simp only; cases doOp call op [] e (absorb s pend H) <;> rfl
theorem skipD_eq (call : Caller) (o : CO) (d : Dw) (l : List (CO × Dw)) (ih : T8 AVal → AH → Pth → Nat → List Pend → List AH → List Rd → Out) (hi : ∀ e H ids s pend hs rds, ih e H ids s pend hs rds = runD call l e H ids s pend hs rds) (e : T8 AVal) (H : AH) (ids : Pth) (s : Nat) (pend : List Pend) (hs : List AH) (rds : List Rd) :
    skipD o.dst d.kind ih e H ids s pend hs rds = (bif Nat.beq d.kind 3 then runD call l (setE e o.dst undefV) (absorb s pend H) ids (Nat.succ s) (keepP s pend) (absorb s pend H :: hs) rds
      else runD call l (setE e o.dst undefV) H ids s pend hs rds) := by
  simp only [skipD, hi, setEG_eq, absorbG_eq]
  cases Nat.beq d.kind 3 <;> rfl
theorem runDG_eq (call : Caller) (l : List (CO × Dw)) (e : T8 AVal) (H : AH) (ids : Pth) (s : Nat) (pend : List Pend) (hs : List AH) (rds : List Rd) : runDG call l e H ids s pend hs rds = runD call l e H ids s pend hs rds := by
  induction l generalizing e H ids s pend hs rds with
  | nil =>
    show Bool.rec (motive := fun _ => Out) .none (.norm e (absorbAllG pend H)) (checkRds hs s rds) = _
    rw [absorbAllG_eq]
    unfold runD
    cases checkRds hs s rds <;> rfl
  | cons x l ih =>
    obtain ⟨⟨dst, op, g⟩, ⟨kind, lo, hi⟩⟩ := x
    have hg := goD_eq call ⟨dst, op, g⟩ ⟨kind, lo, hi⟩ l (runDG call l) ih e H ids s pend hs rds
    have hk := skipD_eq call ⟨dst, op, g⟩ ⟨kind, lo, hi⟩ l (runDG call l) ih e H ids s pend hs rds
    show Option.rec (motive := fun _ => Out) (goD call op dst kind lo hi (runDG call l) e H ids s pend hs rds) (fun gd => Want.rec (motive := fun _ => Out) .none (skipD dst kind (runDG call l) e H ids s pend hs rds) (goD call op dst kind lo hi (runDG call l) e H ids s pend hs rds) (wantsG gd e)) g = _
    simp only [runD]
    simp only at hg hk
    rw [hg, hk]
    cases g with
    | none => rfl
    | some gd =>
      simp only [wantsG_eq]
      cases wants [] e (some gd) <;> rfl

noncomputable def resG (H : AH) (e : T8 AVal) (rs : List (Pth × Option (Bool × Nat))) : List AVal :=
  List.rec (motive := fun _ => List AVal) [] (fun x _ ih => Prod.rec (motive := fun _ => List AVal) (fun p o => Option.rec (motive := fun _ => List AVal) (getA p e :: ih) (fun q => Prod.rec (motive := fun _ => List AVal) (fun agg sz => loadF agg sz (getA p e) H :: ih) q) o) x) rs
theorem resG_eq (H : AH) (e : T8 AVal) (rs : List (Pth × Option (Bool × Nat))) : resG H e rs = resultsV H e rs := by
  induction rs with
  | nil => rfl
  | cons x rs ih =>
    obtain ⟨p, o⟩ := x
    cases o with
    | none => show getA p e :: resG H e rs = _; rw [ih, getA_eq]; rfl
    | some q => obtain ⟨agg, sz⟩ := q; show loadF agg sz (getA p e) H :: resG H e rs = _; rw [ih, getA_eq, loadF_eq]; rfl
/-- the first result is looked at, the list is made of what was found -/
noncomputable def badG (l : List AVal) : Bool := List.rec (motive := fun _ => Bool) false (fun a _ ih => AVal.rec (motive_1 := fun _ => Bool) (motive_2 := fun _ => Unit) true ih ih ih ih ih (fun _ => ih) (fun _ => ih) (fun _ => ih) (fun _ => ih) (fun _ _ _ => ih) (fun _ _ => ih) (fun _ _ => ih) (fun _ _ _ _ => ih) (fun _ _ _ _ => ih) (fun _ _ => ih) (fun _ => ih) (fun _ _ => ih) () (fun _ _ _ _ => ()) a) l
theorem badG_eq (l : List AVal) : badG l = anyBad l := by
  induction l with
  | nil => rfl
  | cons a l ih => cases a <;> first | rfl | exact ih
noncomputable def resultG (H : AH) (e : T8 AVal) (rs : List (Pth × Option (Bool × Nat))) : R := (fun vs => Bool.rec (motive := fun _ => R) (.ok (tupOf vs) H) .no (badG vs)) (resG H e rs)
theorem resultG_eq (H : AH) (e : T8 AVal) (rs : List (Pth × Option (Bool × Nat))) : resultG H e rs = result H e rs := by
  simp only [resultG, result, resG_eq, badG_eq]
  cases anyBad (resultsV H e rs) <;> rfl

section
variable (F : T8 CFn)
noncomputable def finishG (res : List (Pth × Option (Bool × Nat))) (o : Out) : R :=
  Out.rec (motive := fun _ => R) .no (fun e H => resultG H e res) (fun _ _ _ => .no) (fun e H => resultG H e res) o
theorem finishG_eq (fn : CFn) (o : Out) : finishG fn.res o = finish fn o := by cases o <;> simp only [finishG, finish, resultG_eq]
noncomputable def enterG (fn : CFn) (x : CC → T8 AVal → AH → Out) (args : List AVal) (H : AH) : R :=
  CFn.rec (motive := fun _ => (CC → T8 AVal → AH → Out) → List AVal → AH → R) (fun ps body res orc x args H => List.rec (motive := fun _ => List Orc → R) (fun _ => Option.rec (motive := fun _ => R) .no (fun e0 => finishG res (x body e0 H)) (mkEnvF ps args .nil)) (fun _ _ _ orc => R.rec (motive := fun _ => R) (Option.rec (motive := fun _ => R) .no (fun e0 => finishG res (x body e0 H)) (mkEnvF ps args .nil)) (fun v H' => .ok v H') (useOrc orc args H)) orc orc) fn x args H
theorem enterG_eq (fn : CFn) (x : CC → T8 AVal → AH → Out) (args : List AVal) (H : AH) : enterG fn x args H = enterF fn x args H := by
  rw [enterF_eq]
  obtain ⟨ps, body, res, orc⟩ := fn
  have fin : ∀ o, finishG res o = finish ⟨ps, body, res, orc⟩ o := finishG_eq ⟨ps, body, res, orc⟩
  simp only [enterG, mkEnvF_eq, fin]
  cases orc with
  | nil => simp only [useOrc]; cases mkEnv ps args .nil <;> rfl
  | cons o orc =>
    simp only
    cases useOrc (o :: orc) args H with
    | ok v H' => rfl
    | no => simp only; cases mkEnv ps args .nil <;> rfl
noncomputable def callerG (x : CC → T8 AVal → AH → Out) : Caller := fun g args H =>
  AVal.rec (motive_1 := fun _ => AVal → List AVal → AH → R) (motive_2 := fun _ => Unit) (fun g args H => caller F x g args H) (fun g args H => caller F x g args H) (fun g args H => caller F x g args H) (fun g args H => caller F x g args H) (fun g args H => caller F x g args H) (fun g args H => caller F x g args H) (fun _ g args H => caller F x g args H) (fun _ g args H => caller F x g args H) (fun _ g args H => caller F x g args H) (fun _ g args H => caller F x g args H) (fun f caps _ _ args H => enterG (getF noFn f F) x (List.rec (motive := fun _ => _) args (fun c cs _ => app args (c :: cs)) caps) H) (fun _ _ g args H => caller F x g args H) (fun _ _ g args H => caller F x g args H) (fun _ _ _ _ g args H => caller F x g args H) (fun _ _ _ _ g args H => caller F x g args H) (fun _ _ g args H => caller F x g args H) (fun _ g args H => caller F x g args H) (fun _ _ g args H => caller F x g args H) () (fun _ _ _ _ => ()) g g args H
theorem callerG_eq (x : CC → T8 AVal → AH → Out) (g : AVal) (args : List AVal) (H : AH) : callerG F x g args H = caller F x g args H := by
  rw [← callerF_eq]
  cases g with
  | fnv f caps =>
    show enterG (getF noFn f F) x _ H = enterF (getF noFn f F) x _ H
    rw [enterG_eq]
  | _ => rw [callerF_eq]; rfl
noncomputable def execSG (x : CC → T8 AVal → AH → Out) (c : CC) (e : T8 AVal) (H : AH) : Out :=
  CC.rec (motive := fun _ => T8 CFn → (CC → T8 AVal → AH → Out) → T8 AVal → AH → Out) (fun _ _ _ _ => .none) (fun f ps as bd _ _ F x e H => execS F x (.rangeF f ps as bd) e H) (fun ops F x e H => runDG (callerG F x) ops e (reserveG ops H) H.next 0 [] [reserveG ops H] []) (fun c a b _ _ _ x e H => condF (evF c [] e) x a b e H) (fun _ _ e H => .ret e H) (fun _ _ e H => .norm e H) (fun id b _ _ x e H => Out.rec (motive := fun _ => Nat → Out) (fun _ => .none) (fun e H _ => .ret e H) (fun i e H id => Bool.rec (.exit i e H) (.norm e H) (Nat.beq id i)) (fun e H _ => .norm e H) (x b e H) id) (fun b _ _ x e H => Out.rec (motive := fun _ => (CC → T8 AVal → AH → Out) → CC → Out) (fun _ _ => .none) (fun e H _ _ => .ret e H) (fun i e H _ _ => .exit i e H) (fun e H x b => x (.loop b) e H) (x b e H) x b) (fun id _ _ e H => .exit id e H) (fun ops c a b _ _ F x e H => OutL.rec (motive := fun _ => (CC → T8 AVal → AH → Out) → COpd → CC → CC → Out) (fun _ _ _ _ => .none) (fun L e H x c a b => condF (evF c L e) x a b e H) (runF ops (callerG F x) [] e H) x c a b) (fun ops F x e H => OutL.rec (motive := fun _ => _) .none (fun _ e H => .norm e H) (runF ops (callerG F x) [] e H)) (fun a b _ _ _ x e H => Out.rec (motive := fun _ => (CC → T8 AVal → AH → Out) → CC → Out) (fun _ _ => .none) (fun e H _ _ => .ret e H) (fun i e H _ _ => .exit i e H) (fun e H x b => x b e H) (x a e H) x b) c F x e H
theorem execSG_eq (x : CC → T8 AVal → AH → Out) (c : CC) (e : T8 AVal) (H : AH) : execSG F x c e H = execS F x c e H := by
  have hc : callerG F x = callerF F x := funext fun g => funext fun a => funext fun H => (callerG_eq F x g a H).trans (callerF_eq F x g a H).symm
  have hd : callerG F x = caller F x := funext fun g => funext fun a => funext fun H => callerG_eq F x g a H
  rw [← execSF_eq]
  cases c with
  | regd ops => simp only [execSG, execSF, hc, runDG_eq, reserveG_eq]
  | regc ops c a b => simp only [execSG, execSF, hc]
  | reg ops => simp only [execSG, execSF, hc]
  | _ => rfl
noncomputable def execG (n : Nat) : CC → T8 AVal → AH → Out := Nat.rec (motive := fun _ => CC → T8 AVal → AH → Out) (fun _ _ _ => .none) (fun _ ih => execSG F ih) n
theorem execG_eq (n : Nat) : execG F n = exec F n := by
  induction n with
  | zero => rfl
  | succ n ih =>
    funext c e H
    show execSG F (execG F n) c e H = execS F (exec F n) c e H
    rw [ih, execSG_eq]
noncomputable def callG (n : Nat) (f : Pth) (args : List AVal) (H : AH) : R := enterG (getF noFn f F) (execG F n) args H
theorem callG_eq (n : Nat) (f : Pth) (args : List AVal) (H : AH) : callG F n f args H = callF F n f args H := by
  rw [← callFF_eq]
  show enterG (getF noFn f F) (execG F n) args H = enterF (getF noFn f F) (execF F n) args H
  rw [enterG_eq, execG_eq, execF_eq]
end
end Go.Ex

