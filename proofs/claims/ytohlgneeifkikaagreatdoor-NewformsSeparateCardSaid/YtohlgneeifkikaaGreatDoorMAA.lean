/- A part of the executor of abstract values, its soundness over the model, and what functions of the program reckon. Conditions: those stated at each theorem. -/
import GoSem.Dispatch
import GoSem.Machine.Frame
import Derived.CallsIn
import Derived.Laws.CopyRow
import Derived.Laws.Cells
import Derived.Laws.Sem
import Derived.IntWalk
import Derived.Laws.Tables
import Derived.Great.BuildSlice
import Derived.Laws.StructEq
import Derived.RangeFuncRecord
import Derived.OrdersIn
set_option maxRecDepth 1000000
set_option maxHeartbeats 0
set_option linter.unusedVariables false
noncomputable section
namespace Go.Ex
inductive D where
 |d0|d1|d2|d3|d4|d5|d6|d7|d8|d9|d10|d11|d12|d13|d14|d15|d16|d17|d18|d19|d20|d21|d22|d23|d24|d25|d26|d27|d28|d29|d30|d31
 deriving Inhabited
def D.toNat:D->Nat
 |.d0=>0
 |.d1=>1
 |.d2=>2
 |.d3=>3
 |.d4=>4
 |.d5=>5
 |.d6=>6
 |.d7=>7
 |.d8=>8
 |.d9=>9
 |.d10=>10
 |.d11=>11
 |.d12=>12
 |.d13=>13
 |.d14=>14
 |.d15=>15
 |.d16=>16
 |.d17=>17
 |.d18=>18
 |.d19=>19
 |.d20=>20
 |.d21=>21
 |.d22=>22
 |.d23=>23
 |.d24=>24
 |.d25=>25
 |.d26=>26
 |.d27=>27
 |.d28=>28
 |.d29=>29
 |.d30=>30
 |.d31=>31
def D.of:Nat->D
 |0=>.d0
 |1=>.d1
 |2=>.d2
 |3=>.d3
 |4=>.d4
 |5=>.d5
 |6=>.d6
 |7=>.d7
 |8=>.d8
 |9=>.d9
 |10=>.d10
 |11=>.d11
 |12=>.d12
 |13=>.d13
 |14=>.d14
 |15=>.d15
 |16=>.d16
 |17=>.d17
 |18=>.d18
 |19=>.d19
 |20=>.d20
 |21=>.d21
 |22=>.d22
 |23=>.d23
 |24=>.d24
 |25=>.d25
 |26=>.d26
 |27=>.d27
 |28=>.d28
 |29=>.d29
 |30=>.d30
 |_=>.d31
inductive Pth where
 |e
 |s (d:D) (p:Pth)
 deriving Inhabited
def Pth.succ:Pth->Pth
 |.e=>.s .d1 .e
 |.s .d0 p=>.s .d1 p
 |.s .d1 p=>.s .d2 p
 |.s .d2 p=>.s .d3 p
 |.s .d3 p=>.s .d4 p
 |.s .d4 p=>.s .d5 p
 |.s .d5 p=>.s .d6 p
 |.s .d6 p=>.s .d7 p
 |.s .d7 p=>.s .d8 p
 |.s .d8 p=>.s .d9 p
 |.s .d9 p=>.s .d10 p
 |.s .d10 p=>.s .d11 p
 |.s .d11 p=>.s .d12 p
 |.s .d12 p=>.s .d13 p
 |.s .d13 p=>.s .d14 p
 |.s .d14 p=>.s .d15 p
 |.s .d15 p=>.s .d16 p
 |.s .d16 p=>.s .d17 p
 |.s .d17 p=>.s .d18 p
 |.s .d18 p=>.s .d19 p
 |.s .d19 p=>.s .d20 p
 |.s .d20 p=>.s .d21 p
 |.s .d21 p=>.s .d22 p
 |.s .d22 p=>.s .d23 p
 |.s .d23 p=>.s .d24 p
 |.s .d24 p=>.s .d25 p
 |.s .d25 p=>.s .d26 p
 |.s .d26 p=>.s .d27 p
 |.s .d27 p=>.s .d28 p
 |.s .d28 p=>.s .d29 p
 |.s .d29 p=>.s .d30 p
 |.s .d30 p=>.s .d31 p
 |.s .d31 p=>.s .d0 p.succ
def Pth.toNat:Pth->Nat
 |.e=>0
 |.s d p=>d.toNat+32*p.toNat
def pathOf:Nat->Nat->Pth
 |0,_=>.e
 |f+1,n=>bif Nat.beq n 0 then .e else .s (D.of (Nat.mod n 32)) (pathOf f (Nat.div n 32))
def key(t:Nat):Pth:=pathOf t t
structure C8(β:Type) where
 c0:β
 c1:β
 c2:β
 c3:β
 c4:β
 c5:β
 c6:β
 c7:β
 c8:β
 c9:β
 c10:β
 c11:β
 c12:β
 c13:β
 c14:β
 c15:β
 c16:β
 c17:β
 c18:β
 c19:β
 c20:β
 c21:β
 c22:β
 c23:β
 c24:β
 c25:β
 c26:β
 c27:β
 c28:β
 c29:β
 c30:β
 c31:β
inductive T8(α:Type) where
 |nil
 |node (v:α) (c:C8 (T8 α))
instance{α:Type}:Inhabited (T8 α):=⟨.nil⟩
def sel{β:Type}(c:C8 β):D->β
 |.d0=>c.c0
 |.d1=>c.c1
 |.d2=>c.c2
 |.d3=>c.c3
 |.d4=>c.c4
 |.d5=>c.c5
 |.d6=>c.c6
 |.d7=>c.c7
 |.d8=>c.c8
 |.d9=>c.c9
 |.d10=>c.c10
 |.d11=>c.c11
 |.d12=>c.c12
 |.d13=>c.c13
 |.d14=>c.c14
 |.d15=>c.c15
 |.d16=>c.c16
 |.d17=>c.c17
 |.d18=>c.c18
 |.d19=>c.c19
 |.d20=>c.c20
 |.d21=>c.c21
 |.d22=>c.c22
 |.d23=>c.c23
 |.d24=>c.c24
 |.d25=>c.c25
 |.d26=>c.c26
 |.d27=>c.c27
 |.d28=>c.c28
 |.d29=>c.c29
 |.d30=>c.c30
 |.d31=>c.c31
def upd{β:Type}(c:C8 β)(x:β):D->C8 β
 |.d0=>{c with c0:=x}
 |.d1=>{c with c1:=x}
 |.d2=>{c with c2:=x}
 |.d3=>{c with c3:=x}
 |.d4=>{c with c4:=x}
 |.d5=>{c with c5:=x}
 |.d6=>{c with c6:=x}
 |.d7=>{c with c7:=x}
 |.d8=>{c with c8:=x}
 |.d9=>{c with c9:=x}
 |.d10=>{c with c10:=x}
 |.d11=>{c with c11:=x}
 |.d12=>{c with c12:=x}
 |.d13=>{c with c13:=x}
 |.d14=>{c with c14:=x}
 |.d15=>{c with c15:=x}
 |.d16=>{c with c16:=x}
 |.d17=>{c with c17:=x}
 |.d18=>{c with c18:=x}
 |.d19=>{c with c19:=x}
 |.d20=>{c with c20:=x}
 |.d21=>{c with c21:=x}
 |.d22=>{c with c22:=x}
 |.d23=>{c with c23:=x}
 |.d24=>{c with c24:=x}
 |.d25=>{c with c25:=x}
 |.d26=>{c with c26:=x}
 |.d27=>{c with c27:=x}
 |.d28=>{c with c28:=x}
 |.d29=>{c with c29:=x}
 |.d30=>{c with c30:=x}
 |.d31=>{c with c31:=x}
def nil8{α:Type}:C8 (T8 α):=⟨.nil,.nil,.nil,.nil,.nil,.nil,.nil,.nil,.nil,.nil,.nil,.nil,.nil,.nil,.nil,.nil,.nil,.nil,.nil,.nil,.nil,.nil,.nil,.nil,.nil,.nil,.nil,.nil,.nil,.nil,.nil,.nil⟩
def T8.get{α:Type}(z:α):Pth->T8 α->α
 |.e,.nil=>z
 |.e,.node v _=>v
 |.s _ _,.nil=>z
 |.s d p,.node _ c=>T8.get z p (sel c d)
def T8.put{α:Type}(z x:α):Pth->T8 α->T8 α
 |.e,.nil=>.node x nil8
 |.e,.node _ c=>.node x c
 |.s d p,.nil=>.node z (upd nil8 (T8.put z x p .nil) d)
 |.s d p,.node v c=>.node v (upd c (T8.put z x p (sel c d)) d)
inductive AVal where
 |bad
 |pnil
 |se
 |snil
 |fnil
 |mnil
 |opq (i:Nat)
 |mag (n:Nat)
 |mptr (n k:Nat)
 |yld (l:Pth)
 |str (s:ByteArray)
 |map (id:Pth)
 |fnv (f:Pth) (caps:List AVal)
 |tup (l:List AVal)
 |agg (l:List AVal)
 |sg (id:Pth) (off len esz:Nat)
 |sl (id:Pth) (off len cap:Nat)
 |ptr (id:Pth) (off:Nat)
 |bool (b:Bool)
 |int (k:IntKind) (n:Int)
 deriving Inhabited
inductive Ix where
 |z
 |s (i:Ix)
 deriving Inhabited
inductive COpd where
 |l (i:Ix)
 |t (p:Pth)
 |k (v:AVal)
 deriving Inhabited
inductive COp where
 |bad
 |eqs (neg:Bool) (offs:List Nat) (x y:COpd)
 |cmp (cls:Nat) (op:BinOp) (x y:COpd)
 |lens (x:COpd)
 |pick (c a b:COpd)
 |build (z:List AVal) (parts:List (Nat×Nat×COpd))
 |bsl (esz len:Nat) (z:List AVal) (parts:List (Nat×COpd))
 |nilc (x:COpd)
 |un (op:UnOp) (x:COpd)
 |conv (k:IntKind) (x:COpd)
 |mkfn (f:Pth) (caps:List COpd)
 |mksl (esz bytes:Nat) (z:List AVal) (len cap:COpd)
 |slc (esz:Nat) (x:COpd) (lo hi:Option COpd)
 |fld (agg:Bool) (off sz:Nat) (x:COpd)
 |iaddrA (len esz:Nat) (x i:COpd)
 |idxA (agg:Bool) (len esz:Nat) (x i:COpd)
 |idxS (x i:COpd)
 |len (x:COpd)
 |append (esz bytes:Nat) (s x:COpd)
 |copy (esz:Nat) (d s:COpd)
 |max (xs:List COpd)
 |min (xs:List COpd)
 |extract (x:COpd) (i:Nat)
 |callv (f:COpd) (args:List COpd)
 |mkmap
 |lookup (zero:AVal) (ok:Bool) (m k:COpd)
 |mapup (m k v:COpd)
 |call (f:Pth) (args:List COpd)
 |iaddr (esz:Nat) (x i:COpd)
 |faddr (off:Nat) (x:COpd)
 |box (x:COpd)
 |store (sz:Nat) (x v:COpd)
 |load (agg:Bool) (sz:Nat) (x:COpd)
 |bin (op:BinOp) (x y:COpd)
 |move (x:COpd)
 deriving Inhabited
inductive Dst where
 |drop
 |slot (p:Pth)
 |push
 deriving Inhabited
structure CO where
 dst:Dst
 op:COp
 guard:Option (COpd×Bool)
 deriving Inhabited
inductive Ops where
 |fin
 |gen (o:CO) (k:Ops)
 |pcv (c:IntKind) (x:COpd) (k:Ops)
 |pln (x:COpd) (k:Ops)
 |pex (x:COpd) (i:Nat) (k:Ops)
 |pca (f:Pth) (xs:List COpd) (k:Ops)
 |st (sz:Nat) (x v:COpd) (k:Ops)
 |pia (esz:Nat) (x i:COpd) (k:Ops)
 |pfa (off:Nat) (x:COpd) (k:Ops)
 |pld (agg:Bool) (sz:Nat) (x:COpd) (k:Ops)
 |sm (q:Pth) (x:COpd) (k:Ops)
 |pb (op:BinOp) (x y:COpd) (k:Ops)
 deriving Inhabited
def Ops.toL:Ops->List CO
 |.fin=>[]
 |.gen o k=>o::k.toL
 |.pcv c x k=>⟨.push,.conv c x,none⟩::k.toL
 |.pln x k=>⟨.push,.len x,none⟩::k.toL
 |.pex x i k=>⟨.push,.extract x i,none⟩::k.toL
 |.pca f xs k=>⟨.push,.call f xs,none⟩::k.toL
 |.st sz x v k=>⟨.drop,.store sz x v,none⟩::k.toL
 |.pia s x i k=>⟨.push,.iaddr s x i,none⟩::k.toL
 |.pfa o x k=>⟨.push,.faddr o x,none⟩::k.toL
 |.pld a s x k=>⟨.push,.load a s x,none⟩::k.toL
 |.sm q x k=>⟨.slot q,.move x,none⟩::k.toL
 |.pb o x y k=>⟨.push,.bin o x y,none⟩::k.toL
def Ops.ofL:List CO->Ops
 |[]=>.fin
 |⟨.push,.conv c x,none⟩::k=>.pcv c x (ofL k)
 |⟨.push,.len x,none⟩::k=>.pln x (ofL k)
 |⟨.push,.extract x i,none⟩::k=>.pex x i (ofL k)
 |⟨.push,.call f xs,none⟩::k=>.pca f xs (ofL k)
 |⟨.drop,.store sz x v,none⟩::k=>.st sz x v (ofL k)
 |⟨.push,.iaddr s x i,none⟩::k=>.pia s x i (ofL k)
 |⟨.push,.faddr o x,none⟩::k=>.pfa o x (ofL k)
 |⟨.push,.load a s x,none⟩::k=>.pld a s x (ofL k)
 |⟨.slot q,.move x,none⟩::k=>.sm q x (ofL k)
 |⟨.push,.bin o x y,none⟩::k=>.pb o x y (ofL k)
 |o::k=>.gen o (ofL k)
structure Dw where
 kind:Nat
 lo:Nat
 hi:Nat
 deriving Inhabited
inductive CC where
 |bad
 |rangeF (f:COpd) (params:List Pth) (assign body:CC)
 |aC (ops:List (CO×Dw))
 |cond (c:COpd) (a b:CC)
 |ret
 |skip
 |block (id:Nat) (c:CC)
 |loop (c:CC)
 |exit (id:Nat)
 |aq (ops:Ops) (c:COpd) (a b:CC)
 |aa (ops:Ops)
 |seq (a b:CC)
 deriving Inhabited
inductive AObj where
 |dead
 |lp (ready:Bool) (env:T8 AVal) (params:List Pth) (assign body:CC)
 |mp (es:List (AVal×AVal))
 |ro (esz n:Nat) (dflt:List AVal) (els:T8 (List AVal))
 |arr (esz n:Nat) (dflt:List AVal) (els:T8 (List AVal))
 |fwd (to:Pth) (esz n:Nat) (dflt:List AVal) (els:T8 (List AVal))
 deriving Inhabited
structure AH where
 next:Pth
 m:T8 AObj
 deriving Inhabited
inductive TObj where
 |arr (esz:Nat) (rows:List (List AVal))
 |mp (es:List (AVal×AVal))
 deriving Inhabited
inductive R where
 |no
 |ok (v:AVal) (H:AH)
 deriving Inhabited
structure Orc where
 args:List AVal
 ro:List (Pth×Nat×Nat×List AVal)
 objs:List (Pth×TObj)
 v:AVal
 ex:Option (Pth×List (Pth×TObj)×Pth)
 nat:Option (List AVal->AH->R)
 deriving Inhabited
structure CFn where
 params:List (Option Pth)
 body:CC
 res:List (Pth×Option (Bool×Nat))
 aP:List Orc
 deriving Inhabited
def noFn:CFn:=⟨[],.bad,[],[]⟩
end Go.Ex
namespace Go.Ex
def AVal.cells:AVal->List AVal
 |.agg l=>l
 |.bad=>[]
 |.tup _=>[]
 |v=>[v]
def undefV:AVal:=.tup []
def dEq(a b:D):Bool:=Nat.beq a.toNat b.toNat
def pthEq:Pth->Pth->Bool
 |.e,.e=>true
 |.s a p,.s b q=>dEq a b&&pthEq p q
 |_,_=>false
def kindEq:IntKind->IntKind->Bool
 |.i64,.i64=>true|.i32,.i32=>true|.i16,.i16=>true|.i8,.i8=>true
 |.u64,.u64=>true|.u32,.u32=>true|.u16,.u16=>true|.u8,.u8=>true
 |_,_=>false
def intEq:Int->Int->Bool
 |.ofNat a,.ofNat b=>Nat.beq a b
 |.negSucc a,.negSucc b=>Nat.beq a b
 |_,_=>false
def intLt:Int->Int->Bool
 |.ofNat a,.ofNat b=>Nat.blt a b
 |.negSucc a,.negSucc b=>Nat.blt b a
 |.negSucc _,.ofNat _=>true
 |.ofNat _,.negSucc _=>false
def boolEq:Bool->Bool->Bool
 |true,b=>b
 |false,b=>!b
def AVal.eq1:AVal->AVal->Bool
 |.bool a,.bool b=>boolEq a b
 |.int k a,.int l b=>kindEq k l&&intEq a b
 |.ptr a m,.ptr b n=>pthEq a b&&Nat.beq m n
 |.pnil,.pnil=>true
 |.sl a m n c,.sl b m' n' c'=>pthEq a b&&(Nat.beq m m'&&(Nat.beq n n'&&Nat.beq c c'))
 |.sg a m n c,.sg b m' n' c'=>pthEq a b&&(Nat.beq m m'&&(Nat.beq n n'&&Nat.beq c c'))
 |.snil,.snil=>true
 |.se,.se=>true
 |.mag a,.mag b=>Nat.beq a b
 |.fnil,.fnil=>true
 |.mnil,.mnil=>true
 |.map a,.map b=>pthEq a b
 |_,_=>false
def eqL:List AVal->List AVal->Bool
 |[],[]=>true
 |a::l,b::r=>a.eq1 b&&eqL l r
 |_,_=>false
def AVal.eqv:AVal->AVal->Bool
 |.agg l,.agg r=>eqL l r
 |.fnv f l,.fnv g r=>pthEq f g&&eqL l r
 |a,b=>a.eq1 b
def two63:Nat:=9223372036854775808
def two64:Nat:=18446744073709551616
def two32:Nat:=4294967296
def wrapN(k:IntKind)(n:Int):Int:=
 match k,n with
 |.i64,.ofNat m=>bif Nat.blt m two63 then n else k.wrap n
 |.i64,.negSucc m=>bif Nat.blt m two63 then n else k.wrap n
 |.u64,.ofNat m=>.ofNat (Nat.mod m two64)
 |.u32,.ofNat m=>.ofNat (Nat.mod m two32)
 |_,_=>k.wrap n
def intBits(op:BinOp)(k:IntKind)(a b:Int):AVal:=
 let x:=BitVec.ofInt k.bits a
 let y:=BitVec.ofInt k.bits b
 match op with
 |.and=>.int k (k.wrap (x&&& y).toNat)
 |.or=>.int k (k.wrap (x||| y).toNat)
 |.xor=>.int k (k.wrap (x ^^^ y).toNat)
 |.andNot=>.int k (k.wrap (x&&& ~~~y).toNat)
 |_=>.bad
def isZero:Int->Bool
 |.ofNat n=>Nat.beq n 0
 |.negSucc _=>false
def intBin(op:BinOp)(k:IntKind)(a b:Int):AVal:=
 match op with
 |.add=>.int k (wrapN k (Int.add a b))
 |.sub=>.int k (wrapN k (Int.sub a b))
 |.mul=>.int k (wrapN k (Int.mul a b))
 |.quo=>bif isZero b then .bad else .int k (wrapN k (Int.tdiv a b))
 |.rem=>bif isZero b then .bad else .int k (Int.tmod a b)
 |.eql=>.bool (intEq a b)
 |.neq=>.bool (!intEq a b)
 |.lss=>.bool (intLt a b)
 |.leq=>.bool (!intLt b a)
 |.gtr=>.bool (intLt b a)
 |.geq=>.bool (!intLt a b)
 |.and=>intBits .and k a b
 |.or=>intBits .or k a b
 |.xor=>intBits .xor k a b
 |.andNot=>intBits .andNot k a b
 |.shl=>.bad
 |.shr=>.bad
def intShift(op:BinOp)(k:IntKind)(a:Int)(b:Int):AVal:=
 match b with
 |.negSucc _=>.bad
 |.ofNat m=>
  let n:=Nat.min m k.bits
  match op with
  |.shl=>.int k (wrapN k (Int.mul a (.ofNat (Nat.pow 2 n))))
  |.shr=>.int k (Int.fdiv a (.ofNat (Nat.pow 2 n)))
  |_=>.bad
def eqlV(cls:Nat)(x y:AVal):Option Bool:=
 match cls with
 |0=>match x,y with
  |.bool a,.bool b=>some (boolEq a b)
  |_,_=>none
 |1=>match x,y with
  |.pnil,.pnil=>some true
  |.pnil,.ptr _ _=>some false
  |.ptr _ _,.pnil=>some false
  |_,_=>none
 |2=>match x,y with
  |.snil,.snil=>some true
  |.snil,.sl _ _ _ _=>some false
  |.snil,.sg _ _ _ _=>some false
  |.snil,.se=>some false
  |.sl _ _ _ _,.snil=>some false
  |.sg _ _ _ _,.snil=>some false
  |.se,.snil=>some false
  |_,_=>none
 |3=>match x,y with
  |.fnil,.fnil=>some true
  |.fnil,.fnv _ _=>some false
  |.fnv _ _,.fnil=>some false
  |_,_=>none
 |4=>match x,y with
  |.mnil,.mnil=>some true
  |.mnil,.map _=>some false
  |.map _,.mnil=>some false
  |_,_=>none
 |_=>none
def eqCells(xs ys:List AVal):List Nat->Option Bool
 |[]=>some true
 |o::r=>match xs[o]?,ys[o]? with
  |some (.int k a),some (.int l b)=>bif kindEq k l then(bif intEq a b then eqCells xs ys r else some false)else none
  |_,_=>none
def eqsV(neg:Bool)(offs:List Nat)(x y:AVal):AVal:=
 match x,y with
 |.agg xs,.agg ys=>match eqCells xs ys offs with
  |some b=>.bool (bif neg then !b else b)
  |none=>.bad
 |_,_=>.bad
def isShift:BinOp->Bool
 |.shl=>true
 |.shr=>true
 |_=>false
def ofEq(op:BinOp)(b:Option Bool):AVal:=
 match b with
 |none=>.bad
 |some b=>match op with
  |.eql=>.bool b
  |.neq=>.bool (!b)
  |_=>.bad
def binV(op:BinOp)(x y:AVal):AVal:=
 match x,y with
 |.int k a,.int l b=>bif isShift op then intShift op k a b else bif kindEq k l then intBin op k a b else .bad
 |_,_=>.bad
def cmpV(cls:Nat)(op:BinOp)(x y:AVal):AVal:=ofEq op (eqlV cls x y)
def unV(op:UnOp)(x:AVal):AVal:=
 match op,x with
 |.neg,.int k n=>.int k (wrapN k (Int.sub 0 n))
 |.not,.bool b=>.bool (!b)
 |.xor,.int k n=>intBits .xor k (if k.signed then -1 else k.max) n
 |_,_=>.bad
def max2:AVal->AVal->AVal
 |.int k a,.int l b=>bif kindEq k l then .int k (bif intLt a b then b else a)else .bad
 |_,_=>.bad
def min2:AVal->AVal->AVal
 |.int k a,.int l b=>bif kindEq k l then .int k (bif intLt b a then b else a)else .bad
 |_,_=>.bad
def foldV(f:AVal->AVal->AVal):AVal->List AVal->AVal
 |a,[]=>a
 |a,b::l=>foldV f (f a b) l
def getL:Ix->List AVal->AVal
 |.z,a::_=>a
 |.s i,_::l=>getL i l
 |_,[]=>.bad
def COpd.ev(L:List AVal)(e:T8 AVal):COpd->AVal
 |.l i=>getL i L
 |.t p=>e.get .bad p
 |.k v=>v
def evs(L:List AVal)(e:T8 AVal):List COpd->List AVal
 |[]=>[]
 |x::l=>x.ev L e::evs L e l
def setL(L:List AVal)(d:Dst)(v:AVal):List AVal:=
 match d with
 |.push=>v::L
 |_=>L
def setE(e:T8 AVal)(d:Dst)(v:AVal):T8 AVal:=
 match d with
 |.slot p=>e.put .bad v p
 |_=>e
def lenIs:List AVal->Nat->Bool
 |[],n=>Nat.beq n 0
 |_::l,n=>bif Nat.beq n 0 then false else lenIs l (Nat.pred n)
def takeN:Nat->List AVal->Option (List AVal)
 |0,_=>some []
 |n+1,a::l=>match takeN n l with
  |some r=>some (a::r)
  |none=>none
 |_+1,[]=>none
def dropN:Nat->List AVal->List AVal
 |0,l=>l
 |n+1,_::l=>dropN n l
 |_+1,[]=>[]
def over:List AVal->List AVal->Option (List AVal)
 |[],l=>some l
 |a::r,_::l=>match over r l with
  |some q=>some (a::q)
  |none=>none
 |_::_,[]=>none
def overAt:Nat->List AVal->List AVal->Option (List AVal)
 |0,new,l=>over new l
 |n+1,new,a::l=>match overAt n new l with
  |some q=>some (a::q)
  |none=>none
 |_+1,_,[]=>none
def orElse(dflt:List AVal):List AVal->List AVal
 |[]=>dflt
 |c=>c
def elem(j:Nat)(dflt:List AVal)(els:T8 (List AVal)):List AVal:=orElse dflt (els.get [] (key j))
def single(agg:Bool)(l:Option (List AVal)):AVal:=
 match l with
 |none=>.bad
 |some l=>bif agg then .agg l else match l with
  |[a]=>a
  |_=>.bad
def cellsAt(agg:Bool)(sz esz n:Nat)(dflt:List AVal)(els:T8 (List AVal))(off:Nat):AVal:=bif Nat.blt (Nat.div off esz) n then single agg (takeN sz (dropN (Nat.mod off esz) (elem (Nat.div off esz) dflt els)))else .bad
def loadF(H:AH)(agg:Bool)(sz:Nat):Nat->Pth->Nat->AVal
 |0,_,_=>.bad
 |f+1,id,off=>match H.m.get .dead id with
  |.arr esz n dflt els=>cellsAt agg sz esz n dflt els off
  |.ro esz n dflt els=>cellsAt agg sz esz n dflt els off
  |.fwd to esz n dflt els=>bif (loadF H agg sz f to off).eqv (cellsAt agg sz esz n dflt els off)then cellsAt agg sz esz n dflt els off else .bad
  |_=>.bad
def loadAt(H:AH)(agg:Bool)(sz:Nat)(id:Pth)(off:Nat):AVal:=
 match H.m.get .dead id with
 |.arr esz n dflt els=>cellsAt agg sz esz n dflt els off
 |.ro esz n dflt els=>cellsAt agg sz esz n dflt els off
 |.fwd to esz n dflt els=>bif (loadF H agg sz 99 to off).eqv (cellsAt agg sz esz n dflt els off)then cellsAt agg sz esz n dflt els off else .bad
 |_=>.bad
def AH.set(H:AH)(id:Pth)(o:AObj):AH:=⟨H.next,H.m.put .dead o id⟩
def AH.add(H:AH)(o:AObj):AH:=⟨H.next.succ,H.m.put .dead o H.next⟩
def storeAt(H:AH)(id:Pth)(off:Nat)(cs:List AVal):R:=
 match H.m.get .dead id with
 |.arr esz n dflt els=>
  bif Nat.blt (Nat.div off esz) n then
   match overAt (Nat.mod off esz) cs (elem (Nat.div off esz) dflt els)with
   |some c=>.ok undefV (H.set id (.arr esz n dflt (els.put [] c (key (Nat.div off esz)))))
   |none=>.no
  else .no
 |_=>.no
def elemsFrom(dflt:List AVal)(els:T8 (List AVal)):Nat->Nat->List (List AVal)
 |_,0=>[]
 |j,n+1=>elem j dflt els::elemsFrom dflt els (Nat.succ j) n
def sliceElems(H:AH)(esz:Nat)(id:Pth)(off len:Nat):Option (List (List AVal)):=
 match H.m.get .dead id with
 |.arr esz' n dflt els=>bif Nat.beq esz esz'&&(Nat.beq (Nat.mod off esz) 0&&Nat.ble (Nat.add (Nat.div off esz) len) n)then some (elemsFrom dflt els (Nat.div off esz) len)else none
 |_=>none
def elemsOf(H:AH)(esz:Nat):AVal->Option (List (List AVal))
 |.snil=>some []
 |.se=>some []
 |.sl id off len _=>bif Nat.beq len 0 then some []else sliceElems H esz id off len
 |.sg id off len _=>bif Nat.beq len 0 then some []else sliceElems H esz id off len
 |_=>none
def putEls:Nat->List (List AVal)->T8 (List AVal)->T8 (List AVal)
 |_,[],t=>t
 |j,c::l,t=>putEls (Nat.succ j) l (t.put [] c (key j))
def lenL:List (List AVal)->Nat
 |[]=>0
 |_::l=>Nat.succ (lenL l)
def grown(esz:Nat)(dflt:List AVal)(els:T8 (List AVal))(off len:Nat)(new:List (List AVal)):AObj:=
 bif Nat.beq off 0 then .arr esz (Nat.add len (lenL new)) dflt (putEls len new els)
 else .arr esz (Nat.add len (lenL new)) dflt (putEls len new (putEls 0 (elemsFrom dflt els (Nat.div off esz) len) .nil))
def small(need bytes:Nat):Bool:=Nat.blt (Nat.mul need bytes) 1099511627776&&(Nat.blt bytes 1048576&&Nat.blt need 1099511627776)
def appendV(H:AH)(esz bytes:Nat)(s:AVal)(new:List (List AVal)):R:=
 let n:=lenL new
 bif Nat.beq n 0 then
  match s with
  |.snil=>.ok s H
  |.se=>.ok s H
  |.sg _ _ _ _=>.ok s H
  |.sl _ _ len cap=>bif Nat.ble len cap then .ok s H else .no
  |_=>.no
 else
 bif Nat.beq esz 0 then .no else
 match s with
 |.snil=>bif small n bytes then .ok (.sg H.next 0 n esz) (H.add (.arr esz n [] (putEls 0 new .nil)))else .no
 |.sl id off len cap=>
  match H.m.get .dead id with
  |.arr esz' m dflt els=>
   bif Nat.beq esz esz'&&(Nat.beq (Nat.mod off esz) 0&&Nat.ble (Nat.add (Nat.div off esz) len) m)then
    bif Nat.ble (Nat.add len n) cap then
     bif Nat.ble (Nat.add (Nat.add (Nat.div off esz) len) n) m then .ok (.sl id off (Nat.add len n) cap) (H.set id (.arr esz m dflt (putEls (Nat.add (Nat.div off esz) len) new els)))else .no
    else bif small (Nat.add len n) bytes then .ok (.sg H.next 0 (Nat.add len n) esz) (H.add (grown esz dflt els off len new))else .no
   else .no
  |_=>.no
 |.sg id off len ez=>
  match H.m.get .dead id with
  |.arr esz' m dflt els=>
   bif Nat.beq esz esz'&&(Nat.beq esz ez&&(Nat.beq (Nat.mod off esz) 0&&(Nat.ble (Nat.add (Nat.div off esz) len) m&&small (Nat.add len n) bytes)))then
    .ok (.sg H.next 0 (Nat.add len n) esz) ((H.set id (bif Nat.beq off 0 then .fwd H.next esz m dflt els else .dead)).add (grown esz dflt els off len new))
   else .no
  |_=>.no
 |_=>.no
def takeL:Nat->List (List AVal)->List (List AVal)
 |0,_=>[]
 |_+1,[]=>[]
 |n+1,a::l=>a::takeL n l
def lenV:AVal->Option Nat
 |.snil=>some 0
 |.se=>some 0
 |.sl _ _ n _=>some n
 |.sg _ _ n _=>some n
 |_=>none
def writeEls(H:AH)(esz:Nat)(id:Pth)(off:Nat)(new:List (List AVal))(v:AVal):R:=
 match H.m.get .dead id with
 |.arr esz' m dflt els=>bif Nat.beq esz esz'&&(Nat.beq (Nat.mod off esz) 0&&Nat.ble (Nat.add (Nat.div off esz) (lenL new)) m)then .ok v (H.set id (.arr esz m dflt (putEls (Nat.div off esz) new els)))else .no
 |_=>.no
def copyV(H:AH)(esz:Nat)(d:AVal)(new:List (List AVal)):R:=
 match lenV d with
 |none=>.no
 |some dl=>
  let c:=takeL dl new
  bif Nat.beq (lenL c) 0 then .ok (.int .i64 (.ofNat 0)) H else
  bif Nat.beq esz 0 then .no else
  match d with
  |.sl id off _ _=>writeEls H esz id off c (.int .i64 (.ofNat (lenL c)))
  |.sg id off _ _=>writeEls H esz id off c (.int .i64 (.ofNat (lenL c)))
  |_=>.no
def natOf:AVal->Option Nat
 |.int _ (.ofNat m)=>some m
 |_=>none
def slcV(esz:Nat)(x:AVal)(lo:Nat)(hi:Option Nat):AVal:=
 match x with
 |.sl id off len cap=>
  let h:=hi.getD len
  bif Nat.ble lo h&&Nat.ble h cap then .sl id (bif Nat.beq cap lo then off else Nat.add off (Nat.mul lo esz)) (Nat.sub h lo) (Nat.sub cap lo)else .bad
 |.sg id off len ez=>
  let h:=hi.getD len
  bif Nat.beq esz ez&&(Nat.ble lo h&&Nat.ble h len)then
   bif Nat.blt lo len then .sg id (Nat.add off (Nat.mul lo esz)) (Nat.sub h lo) ez
   else bif Nat.beq lo 0 then .sg id off 0 ez else .se
  else .bad
 |.snil=>bif Nat.beq lo 0&&Nat.beq (hi.getD 0) 0 then .snil else .bad
 |.se=>bif Nat.beq lo 0&&Nat.beq (hi.getD 0) 0 then .se else .bad
 |_=>.bad
def slcO(esz:Nat)(x:AVal)(lo hi:Option AVal):AVal:=
 match lo,hi with
 |none,none=>slcV esz x 0 none
 |some l,none=>match natOf l with
  |some l=>slcV esz x l none
  |none=>.bad
 |none,some h=>match natOf h with
  |some h=>slcV esz x 0 (some h)
  |none=>.bad
 |some l,some h=>match natOf l,natOf h with
  |some l,some h=>slcV esz x l (some h)
  |_,_=>.bad
def magN(n:Nat):Nat:=bif Nat.blt n 4294967296 then 1 else 2
def magD(n k:Nat):Nat:=bif Nat.beq k 0 then Nat.mod n 4294967296 else Nat.div n 4294967296
def iaddrV(esz:Nat)(x i:AVal):AVal:=
 match i with
 |.int _ (.ofNat j)=>match x with
  |.sl id off len _=>bif Nat.blt j len then .ptr id (Nat.add off (Nat.mul j esz))else .bad
  |.sg id off len _=>bif Nat.blt j len then .ptr id (Nat.add off (Nat.mul j esz))else .bad
  |.mag n=>bif Nat.beq esz 1&&Nat.blt j (magN n)then .mptr n j else .bad
  |_=>.bad
 |_=>.bad
def iaddrAV(len esz:Nat)(x i:AVal):AVal:=
 match i with
 |.int _ (.ofNat j)=>match x with
  |.ptr id off=>bif Nat.blt j len then .ptr id (Nat.add off (Nat.mul j esz))else .bad
  |_=>.bad
 |_=>.bad
def idxAV(agg:Bool)(len esz:Nat)(x i:AVal):AVal:=
 match i with
 |.int _ (.ofNat j)=>match x with
  |.agg l=>bif Nat.blt j len then single agg (takeN esz (dropN (Nat.mul j esz) l))else .bad
  |_=>.bad
 |_=>.bad
def idxSV(x i:AVal):AVal:=
 match i with
 |.int _ (.ofNat j)=>match x with
  |.str s=>match s.data.toList[j]? with
   |some b=>.int .u8 (.ofNat b.toNat)
   |none=>.bad
  |_=>.bad
 |_=>.bad
def fldV(agg:Bool)(off sz:Nat)(x:AVal):AVal:=
 match x with
 |.agg l=>single agg (takeN sz (dropN off l))
 |_=>.bad
def faddrV(off:Nat)(x:AVal):AVal:=
 match x with
 |.ptr id o=>.ptr id (Nat.add o off)
 |_=>.bad
def nilcV(x:AVal):AVal:=
 match x with
 |.ptr id off=>.ptr id off
 |.fnv f c=>.fnv f c
 |_=>.bad
def convV(k:IntKind)(x:AVal):AVal:=
 match x with
 |.int _ n=>.int k (wrapN k n)
 |_=>.bad
def magLen(n:Nat):AVal:=.int .i64 (.ofNat (magN n))
def lenL1(x:AVal):AVal:=
 match lenV x with
 |some n=>.int .i64 (.ofNat n)
 |none=>.bad
def lenOf(x:AVal):AVal:=
 match x with
 |.mag n=>magLen n
 |x=>lenL1 x
def lensOf(x:AVal):AVal:=
 match x with
 |.str s=>.int .i64 (.ofNat s.size)
 |_=>.bad
def extractV(x:AVal)(i:Nat):AVal:=
 match x with
 |.tup l=>match l[i]? with
  |some v=>v
  |none=>.bad
 |_=>.bad
def pickV(c a b:AVal):AVal:=
 match c with
 |.bool t=>bif t then a else b
 |_=>.bad
def buildV(L:List AVal)(e:T8 AVal):List AVal->List (Nat×Nat×COpd)->AVal
 |z,[]=>.agg z
 |z,(off,sz,x)::r=>bif Nat.blt 0 sz&&lenIs (x.ev L e).cells sz then match overAt off (x.ev L e).cells z with
  |some z'=>buildV L e z' r
  |none=>.bad
  else .bad
def maxV:List AVal->AVal
 |[]=>.bad
 |a::r=>foldV max2 a r
def minV:List AVal->AVal
 |[]=>.bad
 |a::r=>foldV min2 a r
def findK(k:AVal):List (AVal×AVal)->Option (Option AVal)
 |[]=>some none
 |(k',v)::r=>match k,k' with
  |.int a m,.int b n=>bif kindEq a b then(bif intEq m n then some (some v)else findK k r)else none
  |_,_=>none
def setK(k v:AVal):List (AVal×AVal)->List (AVal×AVal)
 |[]=>[(k,v)]
 |(k',v')::r=>bif k.eq1 k' then(k,v)::r else(k',v')::setK k v r
def lookupV(H:AH)(zero:AVal)(ok:Bool)(m k:AVal):AVal:=
 match m with
 |.map id=>match H.m.get .dead id with
  |.mp es=>match findK k es with
   |some (some v)=>bif ok then .tup [v,.bool true]else v
   |some none=>bif ok then .tup [zero,.bool false]else zero
   |none=>.bad
  |_=>.bad
 |_=>.bad
def loadV(H:AH)(agg:Bool)(sz:Nat)(x:AVal):AVal:=
 match x with
 |.ptr id off=>loadAt H agg sz id off
 |.mptr n k=>bif agg then .bad else bif Nat.beq sz 1 then .int .u32 (.ofNat (magD n k))else .bad
 |_=>.bad
def pureV(op:COp)(L:List AVal)(e:T8 AVal)(H:AH):AVal:=
 match op with
 |.move x=>x.ev L e
 |.bin op x y=>binV op (x.ev L e) (y.ev L e)
 |.load agg sz x=>loadV H agg sz (x.ev L e)
 |.faddr off x=>faddrV off (x.ev L e)
 |.iaddr esz x i=>iaddrV esz (x.ev L e) (i.ev L e)
 |.extract x i=>extractV (x.ev L e) i
 |.len x=>lenOf (x.ev L e)
 |.conv k x=>convV k (x.ev L e)
 |.pick c a b=>pickV (c.ev L e) (a.ev L e) (b.ev L e)
 |.build z parts=>buildV L e z parts
 |.nilc x=>nilcV (x.ev L e)
 |.un op x=>unV op (x.ev L e)
 |.mkfn f caps=>.fnv f (evs L e caps)
 |.slc esz x lo hi=>slcO esz (x.ev L e) (lo.map (·.ev L e)) (hi.map (·.ev L e))
 |.fld agg off sz x=>fldV agg off sz (x.ev L e)
 |.iaddrA len esz x i=>iaddrAV len esz (x.ev L e) (i.ev L e)
 |.idxA agg len esz x i=>idxAV agg len esz (x.ev L e) (i.ev L e)
 |.idxS x i=>idxSV (x.ev L e) (i.ev L e)
 |.eqs neg offs x y=>eqsV neg offs (x.ev L e) (y.ev L e)
 |.cmp cls op x y=>cmpV cls op (x.ev L e) (y.ev L e)
 |.lens x=>lensOf (x.ev L e)
 |.max xs=>maxV (evs L e xs)
 |.min xs=>minV (evs L e xs)
 |.lookup zero ok m k=>lookupV H zero ok (m.ev L e) (k.ev L e)
 |_=>.bad
def bslV(L:List AVal)(e:T8 AVal)(esz:Nat):T8 (List AVal)->List (Nat×COpd)->Option (T8 (List AVal))
 |t,[]=>some t
 |t,(j,x)::r=>bif Nat.blt 0 esz&&lenIs (x.ev L e).cells esz then bslV L e esz (t.put [] (x.ev L e).cells (key j)) r else none
def lenN:List AVal->Nat
 |[]=>0
 |_::l=>Nat.succ (lenN l)
def boxV(v:AVal)(id:Pth):Option (AObj×AVal):=
 match v.cells with
 |[]=>none
 |c=>some (.arr (lenN c) 1 c .nil,.ptr id 0)
def mkBlock(L:List AVal)(e:T8 AVal)(op:COp)(id:Pth):Option (AObj×AVal):=
 match op with
 |.box x=>boxV (x.ev L e) id
 |.bsl esz len z parts=>match bslV L e esz .nil parts with
  |some els=>some (.arr esz len z els,.sl id 0 len len)
  |none=>none
 |.mksl esz bytes z l c=>match natOf (l.ev L e),natOf (c.ev L e)with
  |some len,some cap=>bif Nat.ble len cap&&small cap bytes then some (.arr esz cap z .nil,.sl id 0 len cap)else none
  |_,_=>none
 |.mkmap=>some (.mp [],.map id)
 |_=>none
def mkR(H:AH)(r:Option (AObj×AVal)):R:=
 match r with
 |some (o,v)=>.ok v (H.add o)
 |none=>.no
def notBad(v:AVal)(H:AH):R:=
 match v with
 |.bad=>.no
 |v=>.ok v H
def Caller:Type:=AVal->List AVal->AH->R
def storeV(H:AH)(sz:Nat)(x u:AVal):R:=
 match x with
 |.ptr id off=>bif Nat.blt 0 sz&&lenIs u.cells sz then storeAt H id off u.cells else .no
 |_=>.no
def mapupV(H:AH)(m k v:AVal):R:=
 match m with
 |.map id=>match H.m.get .dead id with
  |.mp es=>match findK k es with
   |some _=>.ok undefV (H.set id (.mp (setK k v es)))
   |none=>.no
  |_=>.no
 |_=>.no
def doOp(call:Caller)(op:COp)(L:List AVal)(e:T8 AVal)(H:AH):R:=
 match op with
 |.store sz x v=>storeV H sz (x.ev L e) (v.ev L e)
 |.call f args=>call (.fnv f []) (evs L e args) H
 |.callv f args=>call (f.ev L e) (evs L e args) H
 |.box x=>mkR H (mkBlock L e (.box x) H.next)
 |.bsl a b c d=>mkR H (mkBlock L e (.bsl a b c d) H.next)
 |.mksl a b c d k=>mkR H (mkBlock L e (.mksl a b c d k) H.next)
 |.mkmap=>mkR H (mkBlock L e .mkmap H.next)
 |.append esz bytes s x=>match elemsOf H esz (x.ev L e)with
  |some new=>appendV H esz bytes (s.ev L e) new
  |none=>.no
 |.copy esz d s=>match elemsOf H esz (s.ev L e)with
  |some new=>copyV H esz (d.ev L e) new
  |none=>.no
 |.mapup m k v=>mapupV H (m.ev L e) (k.ev L e) (v.ev L e)
 |op=>notBad (pureV op L e H) H
inductive Out where
 |none
 |ret (e:T8 AVal) (H:AH)
 |exit (id:Nat) (e:T8 AVal) (H:AH)
 |norm (e:T8 AVal) (H:AH)
 deriving Inhabited
inductive Want where
 |no
 |skip
 |go
def wants(L:List AVal)(e:T8 AVal):Option (COpd×Bool)->Want
 |none=>.go
 |some (x,b)=>match x.ev L e with
  |.bool c=>bif boolEq c b then .go else .skip
  |.tup []=>.skip
  |_=>.no
inductive OutL where
 |none
 |ok (L:List AVal) (e:T8 AVal) (H:AH)
def runOps(call:Caller):List CO->List AVal->T8 AVal->AH->OutL
 |[],L,e,H=>.ok L e H
 |o::l,L,e,H=>
  match wants L e o.guard with
  |.go=>match doOp call o.op L e H with
   |.ok v H'=>runOps call l (setL L o.dst v) (setE e o.dst v) H'
   |.no=>.none
  |.skip=>runOps call l (setL L o.dst undefV) (setE e o.dst undefV) H
  |.no=>.none
structure Pend where
 hi:Nat
 id:Pth
 obj:AObj
structure Rd where
 lo:Nat
 hi:Nat
 op:COp
 val:AVal
def absorb(s:Nat):List Pend->AH->AH
 |[],H=>H
 |p::r,H=>bif Nat.beq p.hi s then absorb s r (H.set p.id p.obj)else absorb s r H
def keepP(s:Nat):List Pend->List Pend
 |[]=>[]
 |p::r=>bif Nat.beq p.hi s then keepP s r else p::keepP s r
def absorbAll:List Pend->AH->AH
 |[],H=>H
 |p::r,H=>absorbAll r (H.set p.id p.obj)
def reserve:List (CO×Dw)->AH->AH
 |[],H=>H
 |(_,d)::l,H=>bif Nat.beq d.kind 2 then reserve l ⟨H.next.succ,H.m⟩else reserve l H
def checkRd(r:Rd):List AH->Nat->Bool
 |[],_=>true
 |H::l,s=>(bif Nat.ble r.lo s&&Nat.ble s r.hi then(pureV r.op [] .nil H).eqv r.val else true)&&checkRd r l (Nat.pred s)
def checkRds(hs:List AH)(s:Nat):List Rd->Bool
 |[]=>true
 |r::l=>checkRd r hs s&&checkRds hs s l
def fixRd(e:T8 AVal):COp->COp
 |.load agg sz x=>.load agg sz (.k (x.ev [] e))
 |.lookup z ok m k=>.lookup z ok (.k (m.ev [] e)) (.k (k.ev [] e))
 |_=>.bad
def runD(call:Caller):List (CO×Dw)->T8 AVal->AH->Pth->Nat->List Pend->List AH->List Rd->Out
 |[],e,H,_,s,pend,hs,rds=>bif checkRds hs s rds then .norm e (absorbAll pend H)else .none
 |(o,d)::l,e,H,ids,s,pend,hs,rds=>
  match wants [] e o.guard with
  |.no=>.none
  |.skip=>
   bif Nat.beq d.kind 3 then runD call l (setE e o.dst undefV) (absorb s pend H) ids (Nat.succ s) (keepP s pend) (absorb s pend H::hs) rds
   else runD call l (setE e o.dst undefV) H ids s pend hs rds
  |.go=>
   match d.kind with
   |0=>match notBad (pureV o.op [] e ⟨.e,.nil⟩) H with
    |.ok v _=>runD call l (setE e o.dst v) H ids s pend hs rds
    |.no=>.none
   |1=>match notBad (pureV o.op [] e H) H with
    |.ok v _=>runD call l (setE e o.dst v) H ids s pend hs (bif Nat.beq d.lo d.hi then rds else⟨d.lo,d.hi,fixRd e o.op,v⟩::rds)
    |.no=>.none
   |2=>match mkBlock [] e o.op ids with
    |some (ob,v)=>runD call l (setE e o.dst v) H ids.succ s (⟨d.hi,ids,ob⟩::pend) hs rds
    |none=>.none
   |_=>match doOp call o.op [] e (absorb s pend H)with
    |.ok v H'=>runD call l (setE e o.dst v) H' ids (Nat.succ s) (keepP s pend) (H'::hs) rds
    |.no=>.none
def mkEnv:List (Option Pth)->List AVal->T8 AVal->Option (T8 AVal)
 |[],[],e=>some e
 |some p::ps,v::vs,e=>mkEnv ps vs (e.put .bad v p)
 |none::ps,_::vs,e=>mkEnv ps vs e
 |[],_::_,_=>none
 |some _::_,[],_=>none
 |none::_,[],_=>none
def resultsV(H:AH)(e:T8 AVal):List (Pth×Option (Bool×Nat))->List AVal
 |[]=>[]
 |(p,none)::r=>e.get .bad p::resultsV H e r
 |(p,some (agg,sz))::r=>loadV H agg sz (e.get .bad p)::resultsV H e r
def anyBad:List AVal->Bool
 |[]=>false
 |.bad::_=>true
 |_::l=>anyBad l
def tupOf:List AVal->AVal
 |[v]=>v
 |vs=>.tup vs
def result(H:AH)(e:T8 AVal)(rs:List (Pth×Option (Bool×Nat))):R:=
 let vs:=resultsV H e rs
 bif anyBad vs then .no else .ok (tupOf vs) H
def app:List AVal->List AVal->List AVal
 |[],r=>r
 |a::l,r=>a::app l r
def finish(fn:CFn):Out->R
 |.norm e' H'=>result H' e' fn.res
 |.ret e' H'=>result H' e' fn.res
 |_=>.no
def eqVs:List AVal->List AVal->Bool
 |[],[]=>true
 |a::l,b::r=>a.eqv b&&eqVs l r
 |_,_=>false
def eqR:AVal->AVal->Bool
 |.tup l,.tup r=>eqVs l r
 |a,b=>a.eqv b
def lk:List (Pth×Pth)->Pth->Option Pth
 |[],_=>none
 |(c,a)::l,q=>bif pthEq c q then some a else lk l q
def ren1(θ:List (Pth×Pth)):AVal->AVal
 |.ptr id o=>match lk θ id with
  |some a=>.ptr a o
  |none=>.bad
 |.sl id o l c=>match lk θ id with
  |some a=>.sl a o l c
  |none=>.bad
 |.sg id o l e=>match lk θ id with
  |some a=>.sg a o l e
  |none=>.bad
 |.map id=>match lk θ id with
  |some a=>.map a
  |none=>.bad
 |.yld _=>.bad
 |.fnv f []=>.fnv f []
 |.fnv _ (_::_)=>.bad
 |.tup _=>.bad
 |.agg _=>.bad
 |.opq _=>.bad
 |v=>v
def ren1s(θ:List (Pth×Pth)):List AVal->List AVal
 |[]=>[]
 |a::l=>ren1 θ a::ren1s θ l
def ren2(θ:List (Pth×Pth)):AVal->AVal
 |.agg l=>.agg (ren1s θ l)
 |v=>ren1 θ v
def ren2s(θ:List (Pth×Pth)):List AVal->List AVal
 |[]=>[]
 |a::l=>ren2 θ a::ren2s θ l
def ren3(θ:List (Pth×Pth)):AVal->AVal
 |.tup l=>.tup (ren2s θ l)
 |v=>ren2 θ v
def treeRows(θ:List (Pth×Pth)):Nat->List (List AVal)->T8 (List AVal)->T8 (List AVal)
 |_,[],t=>t
 |j,r::l,t=>treeRows θ (Nat.succ j) l (t.put [] (ren1s θ r) (key j))
def renPairs(θ:List (Pth×Pth)):List (AVal×AVal)->List (AVal×AVal)
 |[]=>[]
 |(a,b)::l=>(ren1 θ a,ren1 θ b)::renPairs θ l
def lenR:List (List AVal)->Nat
 |[]=>0
 |_::l=>Nat.succ (lenR l)
def instO(θ:List (Pth×Pth)):TObj->AObj
 |.arr esz rows=>.arr esz (lenR rows) [] (treeRows θ 0 rows .nil)
 |.mp es=>.mp (renPairs θ es)
def mkIds:List (Pth×TObj)->Pth->List (Pth×Pth)
 |[],_=>[]
 |(c,_)::r,p=>(c,p)::mkIds r p.succ
def addAll(θ:List (Pth×Pth)):List (Pth×TObj)->AH->AH
 |[],H=>H
 |(_,t)::r,H=>addAll θ r (H.add (instO θ t))
def hasRo(H:AH):List (Pth×Nat×Nat×List AVal)->Bool
 |[]=>true
 |(k,e,n,d)::r=>(match H.m.get .dead k with
  |.ro e' n' d' .nil=>Nat.beq e e'&&(Nat.beq n n'&&eqL d d')
  |_=>false)&&hasRo H r
def tree0:Nat->List (List AVal)->T8 (List AVal)->T8 (List AVal)
 |_,[],t=>t
 |j,r::l,t=>tree0 (Nat.succ j) l (t.put [] r (key j))
def obj0:TObj->AObj
 |.arr esz rows=>.arr esz (lenR rows) [] (tree0 0 rows .nil)
 |.mp es=>.mp es
def putObjs:List (Pth×TObj)->T8 AObj->T8 AObj
 |[],m=>m
 |(c,t)::r,m=>putObjs r (m.put .dead (obj0 t) c)
def rowsEq(d:List AVal)(els:T8 (List AVal)):Nat->List (List AVal)->Bool
 |_,[]=>true
 |j,r::l=>eqL (elem j d els) r&&rowsEq d els (Nat.succ j) l
def pairsEq:List (AVal×AVal)->List (AVal×AVal)->Bool
 |[],[]=>true
 |(a,b)::l,(c,d)::r=>(a.eq1 c&&b.eq1 d)&&pairsEq l r
 |_,_=>false
def tobjEq:AObj->TObj->Bool
 |.arr esz n d els,.arr esz' rows=>Nat.beq esz esz'&&(Nat.beq n (lenR rows)&&rowsEq d els 0 rows)
 |.mp es,.mp es'=>pairsEq es es'
 |_,_=>false
def hasObjs(H:AH):List (Pth×TObj)->Bool
 |[]=>true
 |(c,t)::r=>tobjEq (H.m.get .dead c) t&&hasObjs H r
def fits(o:Orc)(args:List AVal)(H:AH):Bool:=
 eqVs args o.args&&(hasRo H o.ro&&match o.ex with
  |none=>true
  |some (p,pre,_)=>pthEq H.next p&&hasObjs H pre)
def give(o:Orc)(H:AH):R:=
 match o.ex with
 |none=>.ok (ren3 (mkIds o.objs H.next) o.v) (addAll (mkIds o.objs H.next) o.objs H)
 |some (_,_,p')=>.ok o.v ⟨p',putObjs o.objs H.m⟩
def orc1(o:Orc)(args:List AVal)(H:AH):R:=
 match o.nat with
 |some g=>g args H
 |none=>bif fits o args H then give o H else .no
def useOrc:List Orc->List AVal->AH->R
 |[],_,_=>.no
 |o::l,args,H=>match orc1 o args H with
  |.ok v H'=>.ok v H'
  |.no=>useOrc l args H
section
variable(F:T8 CFn)
def caller(x:CC->T8 AVal->AH->Out):Caller:=λg args H=>
 match g with
 |.fnv f caps=>
  let fn:=F.get noFn f
  match useOrc fn.aP (app args caps) H with
  |.ok v H'=>.ok v H'
  |.no=>match mkEnv fn.params (app args caps) .nil with
   |some e0=>finish fn (x fn.body e0 H)
   |none=>.no
 |.yld l=>match H.m.get .dead l with
  |.lp true env ps assign body=>
   match mkEnv (ps.map some) args env with
   |some e1=>match x assign e1 H with
    |.norm e2 H2=>match H2.m.get .dead l with
     |.lp true env2 ps2 as2 bd2=>match x body e2 (H2.set l (.lp false env2 ps2 as2 bd2))with
      |.norm _ H3=>match H3.m.get .dead l with
       |.lp false env3 ps3 as3 bd3=>.ok (.bool true) (H3.set l (.lp true env3 ps3 as3 bd3))
       |_=>.no
      |_=>.no
     |_=>.no
    |_=>.no
   |none=>.no
  |_=>.no
 |_=>.no
def execS(x:CC->T8 AVal->AH->Out)(c:CC)(e:T8 AVal)(H:AH):Out:=
 match c with
 |.skip=>.norm e H
 |.ret=>.ret e H
 |.exit id=>.exit id e H
 |.bad=>.none
 |.seq a b=>match x a e H with
  |.norm e' H'=>x b e' H'
  |.ret e' H'=>.ret e' H'
  |.exit id e' H'=>.exit id e' H'
  |.none=>.none
 |.cond c a b=>match c.ev [] e with
  |.bool t=>bif t then x a e H else x b e H
  |_=>.none
 |.block id b=>match x b e H with
  |.exit id' e' H'=>bif Nat.beq id id' then .norm e' H' else .exit id' e' H'
  |.norm e' H'=>.norm e' H'
  |.ret e' H'=>.ret e' H'
  |.none=>.none
 |.loop b=>match x b e H with
  |.norm e' H'=>x (.loop b) e' H'
  |.ret e' H'=>.ret e' H'
  |.exit id e' H'=>.exit id e' H'
  |.none=>.none
 |.aa ops=>match runOps (caller F x) ops.toL [] e H with
  |.ok _ e' H'=>.norm e' H'
  |.none=>.none
 |.aq ops c a b=>match runOps (caller F x) ops.toL [] e H with
  |.ok L e' H'=>match c.ev L e' with
   |.bool t=>bif t then x a e' H' else x b e' H'
   |_=>.none
  |.none=>.none
 |.aC ops=>runD (caller F x) ops e (reserve ops H) H.next 0 [] [reserve ops H] []
 |.rangeF f ps assign body=>
  match f.ev [] e with
  |.fnv g caps=>
   match caller F x (.fnv g caps) [.yld H.next] (H.add (.lp true e ps assign body))with
   |.ok _ H'=>match H'.m.get .dead H.next with
    |.lp true _ _ _ _=>.norm e (H'.set H.next .dead)
    |_=>.none
   |.no=>.none
  |_=>.none
def exec:Nat->CC->T8 AVal->AH->Out
 |0=>λ_ _ _=>.none
 |n+1=>execS F (exec n)
def callF(n:Nat)(f:Pth)(args:List AVal)(H:AH):R:=caller F (exec F n) (.fnv f []) args H
end
def isRes(o:Orc):R->Bool
 |.ok v H=>eqR v o.v&&(hasObjs H o.objs&&match o.ex with
  |none=>true
  |some (_,_,p')=>pthEq H.next p')
 |.no=>false
def roHeap(next:Pth):List (Pth×Nat×Nat×List AVal)->AH
 |[]=>⟨next,.nil⟩
 |(k,e,n,d)::r=>(roHeap next r).set k (.ro e n d .nil)
def preHeap(next:Pth)(o:Orc):AH:=
 match o.ex with
 |none=>roHeap next o.ro
 |some (p,pre,_)=>⟨p,putObjs pre (roHeap p o.ro).m⟩
end Go.Ex
namespace Go.Ex
def scalarOf:Value->Option AVal
 |.bool b=>some (.bool b)
 |.int k n=>some (.int k n)
 |.pointer none=>some .pnil
 |.slice none 0 0=>some .snil
 |.string s=>some (.str s)
 |.nilFunc=>some .fnil
 |.map none=>some .mnil
 |_=>none
def scalars:List Value->Option (List AVal)
 |[]=>some []
 |v::l=>(scalarOf v).bind λa=>(scalars l).bind λr=>some (a::r)
def ofValue:Value->Option AVal
 |.agg cs=>(scalars cs.toList).map .agg
 |v=>scalarOf v
def look:List (Nat×Pth)->Nat->Option Pth
 |[],_=>none
 |(t,p)::l,u=>bif Nat.beq t u then some p else look l u
inductive Src where
 |lev (n:Nat)
 |cp (x:COpd)
structure Ctx where
 g:List (Nat×Src)
 m:Nat
def ixN:Nat->Ix
 |0=>.z
 |n+1=>.s (ixN n)
def Src.opd(m:Nat):Src->COpd
 |.lev n=>.l (ixN (m-1-n))
 |.cp x=>x
def lookG:List (Nat×Src)->Nat->Option Src
 |[],_=>none
 |(t,s)::l,u=>bif Nat.beq t u then some s else lookG l u
def isSlot(p:Pth):Src->Bool
 |.cp (.t q)=>pthEq p q
 |_=>false
def forget(t:Nat)(q:Option Pth)(l:List (Nat×Src)):List (Nat×Src):=
 l.filter λ(u,s)=>!(Nat.beq t u)&&match q with
  |none=>true
  |some p=>!isSlot p s
section
variable(P:Program)(N:Nat)(S:List (Nat×Pth))(A:List Nat)
def cOpd(G:Ctx):Operand->Option COpd
 |.tmp t=>bif Nat.blt t N then match lookG G.g t with
  |some s=>some (s.opd G.m)
  |none=>(look S t).map .t
  else none
 |.const v=>(ofValue v).map .k
 |.global g=>bif Nat.blt g P.globals.size then some (.k (.ptr (key g) 0))else none
 |.func f=>some (.k (.fnv (key f) []))
def cOpds(G:Ctx):List Operand->Option (List COpd)
 |[]=>some []
 |x::l=>(cOpd P N S G x).bind λa=>(cOpds G l).bind λr=>some (a::r)
def tSize(t:TypeId):Option Nat:=(P.info? t).map (·.size)
def tBytes(t:TypeId):Option Nat:=(P.info? t).map (·.bytes)
def tZero(t:TypeId):Option AVal:=((P.info? t).bind (·.zero)).bind ofValue
def tAgg(t:TypeId):Option Bool:=(P.underlying t).map λ|.struct _|.array _ _=>true|_=>false
def tField(s:TypeId)(i:Nat):Option Field:=match P.underlying s with
 |some (.struct fs)=>fs[i]?
 |_=>none
def tElem(t:TypeId):Option TypeId:=match P.underlying t with
 |some (.slice e)=>some e
 |_=>none
def tArr(t:TypeId):Option (Nat×TypeId):=match P.underlying t with
 |some (.array n e)=>some (n,e)
 |_=>none
def flatF:List Field->Option (List Nat)
 |[]=>some []
 |f::r=>bif f.name== "_" then none else match P.underlying f.type with
  |some (.int _)=>(flatF r).map (f.offset::·)
  |_=>none
def cParts(G:Ctx)(fs:Nat->Option (Nat×Nat)):List (Nat×Operand)->Option (List (Nat×Nat×COpd))
 |[]=>some []
 |(i,x)::l=>(fs i).bind λ(o,s)=>(cOpd P N S G x).bind λa=>(cParts G fs l).bind λr=>some ((o,s,a)::r)
def cPartsS(G:Ctx)(len:Nat):List (Nat×Operand)->Option (List (Nat×COpd))
 |[]=>some []
 |(i,x)::l=>bif Nat.blt i len then(cOpd P N S G x).bind λa=>(cPartsS G len l).bind λr=>some ((i,a)::r)else none
def cOpt(G:Ctx):Option Operand->Option (Option COpd)
 |none=>some none
 |some x=>(cOpd P N S G x).map some
def cCall(G:Ctx)(c:Call):Option COp:=
 match c.callee with
 |.value (.func f)=>(cOpds P N S G c.args.toList).map (.call (key f))
 |.value g=>(cOpd P N S G g).bind λg=>(cOpds P N S G c.args.toList).map (.callv g)
 |.invoke _ _=>none
 |.builtin b=>
  match b,c.args.toList,c.argTypes.toList with
  |.len,[x],[t]=>match P.underlying t with
   |some (.slice _)=>(cOpd P N S G x).map .len
   |some .string=>(cOpd P N S G x).map .lens
   |some (.array n _)=>some (.move (.k (.int .i64 (.ofNat n))))
   |some (.pointer a)=>(tArr P a).map λp=>.move (.k (.int .i64 (.ofNat p.1)))
   |_=>none
  |.append,[s,x],t::u::_=>(tElem P t).bind λe=>(tElem P u).bind λ_=>(tSize P e).bind λsz=>(tBytes P e).bind λby_=>(tZero P e).bind λz=>bif !(Nat.blt 0 sz&&lenIs z.cells sz)then none else
   (cOpd P N S G s).bind λs=>(cOpd P N S G x).map λx=>.append sz by_ s x
  |.copy,[d,s],t::_=>(tElem P t).bind λe=>(tSize P e).bind λsz=>bif Nat.beq sz 0 then none else(cOpd P N S G d).bind λd=>(cOpd P N S G s).map λs=>.copy sz d s
  |.max,l,_=>(cOpds P N S G l).map .max
  |.min,l,_=>(cOpds P N S G l).map .min
  |_,_,_=>none
def cOp(G:Ctx):Op->Option COp
 |.move x|.assign x=>(cOpd P N S G x).map .move
 |.pick c a b=>(cOpd P N S G c).bind λc=>(cOpd P N S G a).bind λa=>(cOpd P N S G b).map λb=>.pick c a b
 |.alloc t=>(tZero P t).map λz=>.box (.k z)
 |.box _ x=>(cOpd P N S G x).map .box
 |.build t ps=>(tZero P t).bind λz=>match P.underlying t with
  |some (.struct fs)=>bif fs.toList.all (λf=>(tSize P f.type).isSome)then(cParts P N S G (λi=>(fs[i]?).bind λf=>(tSize P f.type).map λs=>(f.offset,s)) ps.toList).map (λl=>.build z.cells l)else none
  |some (.array _ e)=>(tSize P e).bind λs=>(cParts P N S G (λi=>some (i*s,s)) ps.toList).map λl=>.build z.cells l
  |_=>none
 |.buildSlice t n ps=>(tElem P t).bind λe=>(tSize P e).bind λs=>(tZero P e).bind λz=>bif Nat.blt (n*s) 65536&&(Nat.blt 0 s&&lenIs z.cells s)then
  (cPartsS P N S G n ps.toList).map λl=>.bsl s n z.cells l else none
 |.load t x=>(tAgg P t).bind λa=>(tSize P t).bind λs=>(cOpd P N S G x).map λx=>.load a s x
 |.store t x v=>(tSize P t).bind λs=>(cOpd P N S G x).bind λx=>(cOpd P N S G v).map λv=>.store s x v
 |.nilCheck x=>(cOpd P N S G x).map .nilc
 |.binOp op t x y _=>(cOpd P N S G x).bind λx=>(cOpd P N S G y).bind λy=>
  match P.underlying t with
  |some (.int _)=>some (.bin op x y)
  |some .bool=>some (.cmp 0 op x y)
  |some (.pointer _)=>some (.cmp 1 op x y)
  |some (.slice _)=>some (.cmp 2 op x y)
  |some (.func _ _ _)=>some (.cmp 3 op x y)
  |some (.map _ _)=>some (.cmp 4 op x y)
  |some (.struct fs)=>bif P.eqGuardType P.depth t||P.stoodInHeld t then none else(flatF P fs.toList).bind λl=>match op with
   |.eql=>some (.eqs false l x y)
   |.neq=>some (.eqs true l x y)
   |_=>none
  |_=>none
 |.unOp op _ x=>(cOpd P N S G x).map (.un op)
 |.convert s d x=>match P.underlying s,P.underlying d with
  |some (.int _),some (.int k)=>(cOpd P N S G x).map (.conv k)
  |some (.slice _),some (.slice _)=>none
  |_,_=>none
 |.makeFunc (.func f) first caps=>bif Nat.beq first.size 0 then(cOpds P N S G caps.toList).map (.mkfn (key f))else none
 |.makeMap _ r=>match r with|none=>some .mkmap|some _=>none
 |.makeSlice t l c=>(tElem P t).bind λe=>(tSize P e).bind λs=>(tBytes P e).bind λb=>(tZero P e).bind λz=>bif !(Nat.blt 0 s&&lenIs z.cells s)then none else
  (cOpd P N S G l).bind λl=>(cOpd P N S G c).map λc=>.mksl s b z.cells l c
 |.slice t x lo hi mx=>match mx with
  |some _=>none
  |none=>(tElem P t).bind λe=>(tSize P e).bind λs=>(cOpd P N S G x).bind λx=>(cOpt P N S G lo).bind λlo=>(cOpt P N S G hi).map λhi=>.slc s x lo hi
 |.fieldAddr s x i=>(tField P s i).bind λf=>(tSize P f.type).bind λz=>bif Nat.beq z 0 then none else(cOpd P N S G x).map (.faddr f.offset)
 |.field s x i=>(tField P s i).bind λf=>(tSize P f.type).bind λz=>(tAgg P f.type).bind λa=>(cOpd P N S G x).map (.fld a f.offset z)
 |.indexAddr t x i=>match tElem P t with
  |some e=>(tSize P e).bind λs=>(cOpd P N S G x).bind λx=>(cOpd P N S G i).map λi=>.iaddr s x i
  |none=>(tArr P t).bind λ(n,e)=>(tSize P e).bind λs=>(cOpd P N S G x).bind λx=>(cOpd P N S G i).map λi=>.iaddrA n s x i
 |.index t x i=>match P.underlying t with
  |some .string=>(cOpd P N S G x).bind λx=>(cOpd P N S G i).map λi=>.idxS x i
  |_=>(tArr P t).bind λ(n,e)=>(tSize P e).bind λs=>(tAgg P e).bind λa=>(cOpd P N S G x).bind λx=>(cOpd P N S G i).map λi=>.idxA a n s x i
 |.extract x i=>(cOpd P N S G x).map λx=>.extract x i
 |.call c=>cCall P N S G c
 |.lookup t m k ok=>match P.underlying t with
  |some (.map kt e)=>match P.underlying kt with
   |some (.int _)=>(tZero P e).bind λz=>(cOpd P N S G m).bind λm=>(cOpd P N S G k).map λk=>.lookup z ok m k
   |_=>none
  |_=>none
 |.mapUpdate t m k v=>match P.underlying t with
  |some (.map kt _)=>match P.underlying kt with
   |some (.int _)=>(cOpd P N S G m).bind λm=>(cOpd P N S G k).bind λk=>(cOpd P N S G v).map λv=>.mapup m k v
   |_=>none
  |_=>none
 |_=>none
def cGuard(G:Ctx)(ops:Array Oper):Option (Nat×Bool)->Option (Option (COpd×Bool))
 |none=>some none
 |some (j,b)=>match (ops[j]?).bind (·.dst)with
  |some t=>(cOpd P N S G (.tmp t)).map λx=>some (x,b)
  |none=>none
def cDst(G:Ctx):Option Tmp->Option (Dst×Ctx)
 |none=>some (.drop,G)
 |some t=>bif Nat.blt t N then match look S t with
  |some p=>some (.slot p,⟨forget t (some p) G.g,G.m⟩)
  |none=>some (.push,⟨(t,.lev G.m)::forget t none G.g,Nat.succ G.m⟩)
  else none
def srcOf(G:Ctx):Operand->Option Src
 |.tmp t=>bif Nat.blt t N then match lookG G.g t with
  |some s=>some s
  |none=>(look S t).map λp=>.cp (.t p)
  else none
 |.const v=>(ofValue v).map λa=>.cp (.k a)
 |.global g=>bif Nat.blt g P.globals.size then some (.cp (.k (.ptr (key g) 0)))else none
 |.func f=>some (.cp (.k (.fnv (key f) [])))
def isCopy(G:Ctx)(o:Oper):Option Src:=
 match o.guard,o.op with
 |none,.move x=>srcOf P N S G x
 |none,.assign x=>srcOf P N S G x
 |_,_=>none
def isIn(t:Nat):List Nat->Bool
 |[]=>false
 |u::l=>bif Nat.beq t u then true else isIn t l
def cOper(G:Ctx)(ops:Array Oper)(o:Oper):Option (Option CO×Ctx):=
 (cGuard P N S G ops o.guard).bind λg=>(cDst N S G o.dst).bind λ(d,G')=>
  match d,o.dst,isCopy P N S G o with
  |.push,some t,some x=>bif isIn t A then some (some ⟨d,(cOp P N S G o.op).getD .bad,g⟩,G')else some (none,⟨(t,x)::forget t none G.g,G.m⟩)
  |_,_,_=>some (some ⟨d,(cOp P N S G o.op).getD .bad,g⟩,G')
def consO(a:Option CO)(r:List CO):List CO:=
 match a with
 |some a=>a::r
 |none=>r
def cOpers(ops:Array Oper):Ctx->List Oper->Option (List CO×Ctx)
 |G,[]=>some ([],G)
 |G,o::l=>(cOper P N S A G ops o).bind λ(a,G')=>(cOpers ops G' l).bind λ(r,G'')=>some (consO a r,G'')
def cDstD:Option Tmp->Option Dst
 |none=>some .drop
 |some t=>bif Nat.blt t N then match look S t with
  |some p=>some (.slot p)
  |none=>some .drop
  else none
def opTmps(ops:Array Oper)(o:Oper):List Tmp:=
 (o.op.operands.toList.filterMap λ|.tmp t=>some t|_=>none)++
 (
  match o.guard with
  |some (g,_)=>((ops[g]?).bind (·.dst)).toList
  |none=>[])
def ownS(ops:Array Oper)(o:Oper):List (Nat×Pth):=S.filter λx=>isIn x.1 (opTmps ops o)
def cOperD(ops:Array Oper)(o:Oper):Option CO:=(cGuard P N (ownS S ops o) ⟨[],0⟩ ops o.guard).bind λg=>(cDstD N S o.dst).bind λd=>some ⟨d,(cOp P N (ownS S ops o) ⟨[],0⟩ o.op).getD .bad,g⟩
def cOpersD(ops:Array Oper):List Oper->Option (List CO)
 |[]=>some []
 |o::l=>(cOperD P N S ops o).bind λa=>(cOpersD ops l).bind λr=>some (a::r)
def kindOf:Op->Nat
 |.alloc _|.box ..|.buildSlice ..|.makeSlice ..|.makeMap ..=>2
 |.load ..|.lookup ..=>1
 |.store ..|.mapUpdate ..=>3
 |.call c=>match c.callee with
  |.builtin .append|.builtin .copy=>3
  |.builtin _=>0
  |_=>3
 |_=>0
def bitAt(b:Array Nat)(i j:Nat):Bool:=(b.getD i 0).testBit j
def chN(kd:Nat->Nat):Nat->Nat
 |0=>0
 |i+1=>bif Nat.beq (kd i) 3 then Nat.succ (chN kd i)else chN kd i
def kdOf(ops:Array Oper)(i:Nat):Nat:=((ops[i]?).map λo=>kindOf o.op).getD 0
def loOf(ops:Array Oper)(b:Array Nat)(i:Nat):Nat:=((List.range ops.size).filter λj=>Nat.beq (kdOf ops j) 3&&bitAt b i j).length
def hiOf(ops:Array Oper)(b:Array Nat)(i:Nat):Nat:=((List.range ops.size).filter λj=>Nat.beq (kdOf ops j) 3&&!bitAt b j i).length
def dwOk2(ops:Array Oper)(b:Array Nat):Bool:=
 let l:=List.range ops.size
 let kd:=kdOf ops
 let cn:=chN kd
 (l.all λi=>l.all λj=>!bitAt b i j||(Nat.blt j i&&match ops[i]? with
  |none=>false
  |some o=>o.after.toList.any λe=>Region.binds .any e&&(Nat.beq e.on j||bitAt b e.on j)))&&
 (l.all λi=>bif Nat.beq (kd i) 3 then l.all λk=>!Nat.beq (kd k) 2||!Nat.beq (hiOf ops b k) (cn i)||bitAt b i k else true)&&
 (l.all λi=>bif Nat.beq (kd i) 1||Nat.beq (kd i) 2 then
  (l.all λj=>!Nat.beq (kd j) 3||((!Nat.blt (cn j) (loOf ops b i)||bitAt b i j)&&(!Nat.ble (hiOf ops b i) (cn j)||bitAt b j i)))&&
  (Nat.ble (loOf ops b i) (cn ops.size)&&Nat.ble (hiOf ops b i) (cn ops.size))else true)
def dwOk(ops:Array Oper)(b:Array Nat):Bool:=
 let l:=List.range ops.size
 let kd (i:Nat):Nat:=((ops[i]?).map λo=>kindOf o.op).getD 0
 let cmp (i j:Nat):Bool:=bitAt b i j||bitAt b j i
 (l.all λi=>l.all λj=>Nat.ble j i||!(Nat.beq (kd i) 3&&Nat.beq (kd j) 3)||bitAt b j i)&&
 (l.all λi=>match ops[i]? with
  |none=>false
  |some o=>
   (o.after.toList.all λe=>!Region.binds .any e||Nat.blt e.on i)&&
   ((opTmps ops o).all λt=>l.all λj=>Nat.beq i j||!(((ops[j]?).bind (·.dst))==some t)||cmp i j)&&
   (
    match o.dst with
    |none=>true
    |some t=>l.all λj=>Nat.beq i j||!(((ops[j]?).bind (·.dst))==some t)))
def dwOf(ops:Array Oper)(b:Array Nat)(i:Nat):Dw:=⟨kdOf ops i,loOf ops b i,hiOf ops b i⟩
def zipDw(ops:Array Oper)(b:Array Nat):Nat->List CO->List (CO×Dw)
 |_,[]=>[]
 |i,c::l=>(c,dwOf ops b i)::zipDw ops b (i+1) l
def cRegD(ops:Array Oper):Option CC:=
 (cOpersD P N S ops ops.toList).bind λl=>
  let b:=Region.before ops
  bif dwOk ops b&&dwOk2 ops b then some (.aC (zipDw ops b 0 l))else none
def cRegC(ops:Array Oper)(c:Operand)(x y:CC):Option CC:=(cOpers P N S A ops ⟨[],0⟩ ops.toList).bind λ(l,G)=>(cOpd P N S G c).bind λc=>some (.aq (Ops.ofL l) c x y)
def noRange:CC->Bool
 |.rangeF _ _ _ _=>false
 |.cond _ a b=>noRange a&&noRange b
 |.block _ c=>noRange c
 |.loop c=>noRange c
 |.aq _ _ a b=>noRange a&&noRange b
 |.seq a b=>noRange a&&noRange b
 |_=>true
def cCode:Code->Option CC
 |.skip=>some .skip
 |.label _=>some .skip
 |.ret=>some .ret
 |.exit id=>some (.exit id)
 |.seq (.region _ ops false) (.cond c a b)=>(cCode a).bind λa=>(cCode b).bind λb=>cRegC P N S A ops c a b
 |.seq (.region _ ops false) (.seq (.cond c a b) r)=>(cCode a).bind λa=>(cCode b).bind λb=>(cCode r).bind λr=>(cRegC P N S A ops c a b).bind λx=>some (.seq x r)
 |.seq a b=>(cCode a).bind λa=>(cCode b).bind λb=>some (.seq a b)
 |.cond c a b=>(cOpd P N S ⟨[],0⟩ c).bind λc=>(cCode a).bind λa=>(cCode b).bind λb=>some (.cond c a b)
 |.block id c=>(cCode c).bind λc=>some (.block id c)
 |.loop c=>(cCode c).bind λc=>some (.loop c)
 |.region _ ops d=>bif d then cRegD P N S ops else(cOpers P N S A ops ⟨[],0⟩ ops.toList).bind λ(l,_)=>some (.aa (Ops.ofL l))
 |.rangeFunc f ps as bd=>(cOpd P N S ⟨[],0⟩ f).bind λf=>(ps.toList.mapM (look S)).bind λq=>bif ps.all λt=>Nat.blt t N then(cCode as).bind λas=>(cCode bd).bind λbd=>bif noRange as&&noRange bd then some (.rangeF f q as bd)else none else none
 |_=>some .bad
end
def cRes(P:Program)(N:Nat)(S:List (Nat×Pth)):List ResultVar->Option (List (Pth×Option (Bool×Nat)))
 |[]=>some []
 |.tmp t::r=>bif Nat.blt t N then(look S t).bind λp=>(cRes P N S r).bind λl=>some ((p,none)::l)else none
 |.cell a t::r=>bif Nat.blt a N then(look S a).bind λp=>(tAgg P t).bind λg=>(tSize P t).bind λs=>(cRes P N S r).bind λl=>some ((p,some (g,s))::l)else none
def slotsOk:List (Nat×Pth)->Bool
 |[]=>true
 |(t,p)::l=>(l.all λ(u,q)=>!(Nat.beq t u)&&!(pthEq p q))&&slotsOk l
def cParams(S:List (Nat×Pth)):Nat->Nat->List (Option Pth)
 |_,0=>[]
 |i,n+1=>look S i::cParams S (i+1) n
def cFn(P:Program)(S:List (Nat×Pth))(A:List Nat)(f:Func):Option CFn:=
 f.body.bind λb=>bif f.name== "runtime.NumGoroutine" ||!slotsOk S||Nat.blt f.ntmps (f.params.size+f.nfree)then none else
  (cCode P f.ntmps S A b).bind λc=>(cRes P f.ntmps S f.results.toList).bind λr=>some ⟨cParams S 0 (f.params.size+f.nfree),c,r,[]⟩
end Go.Ex
namespace Go.BI
def val:List Nat->Nat
 |[]=>0
 |a::l=>a+4294967296*val l
def Lim(l:List Nat):Prop:=∀a∈l,a<4294967296
def Top(l:List Nat):Prop:=∀h:l≠[],l.getLast h≠0
def digsF:Nat->Nat->List Nat
 |0,_=>[]
 |f+1,n=>if n=0 then[]else n%4294967296::digsF f (n/4294967296)
def digs(n:Nat):List Nat:=digsF n n
theorem sJ:∀f n,n<=f->digsF f n=digsF n n:=by
 intro f
 induction f using Nat.strongRecOn with
 |ind f ih=>
  intro n hn
  match f,n,hn with
  |0,0,_=>rfl
  |f+1,0,_=>simp[digsF]
  |f+1,n+1,hn=>
   unfold digsF;rw[if_neg (by omega),if_neg (by omega)];have h1:(n+1)/4294967296<=n:=by omega
   rw[ih f (by omega) _ (by omega)];by_cases hf:n=f
   .rw[hf,ih f (by omega) _ (by omega)]
   .rw[ih n (by omega) _ h1]
theorem fY:digs 0=[]:=rfl
theorem du{n:Nat}(h:0<n):digs n=n%4294967296::digs (n/4294967296):=by
 unfold digs
 match n,h with
 |n+1,_=>show(if n+1=0 then[]else _)=_;rw[if_neg (by omega),sJ n _ (by omega)]
theorem aF(n:Nat):val (digs n)=n:=by
 induction n using Nat.strongRecOn with
 |ind n ih=>
  rcases Nat.eq_zero_or_pos n with rfl|h
  .rfl
  .rw[du h];show n%4294967296+4294967296*val (digs (n/4294967296))=n;rw[ih _ (by omega)];omega
theorem dQ(n:Nat):Lim (digs n):=by
 induction n using Nat.strongRecOn with
 |ind n ih=>
  rcases Nat.eq_zero_or_pos n with rfl|h
  .intro a ha;cases ha
  .rw[du h];intro a ha;cases ha with
   |head=>omega
   |tail _ ha=>exact ih _ (by omega) a ha
theorem Lim.tail{a:Nat}{l:List Nat}(h:Lim (a::l)):Lim l:=λx hx=>h x (List.mem_cons_of_mem _ hx)
theorem Lim.head{a:Nat}{l:List Nat}(h:Lim (a::l)):a<4294967296:=h a (List.mem_cons_self ..)
theorem Lim.take{l:List Nat}(h:Lim l)(k:Nat):Lim (l.take k):=λx hx=>h x (List.mem_of_mem_take hx)
theorem Top.tail{a:Nat}{l:List Nat}(h:Top (a::l)):Top l:=by
 intro hl;have:=h (by simp)
 rwa [List.getLast_cons hl]at this
theorem jC:∀{l:List Nat},Lim l->Top l->digs (val l)=l
 |[],_,_=>rfl
 |a::l,hl,ht=>by
  have ih:=jC hl.tail ht.tail;have ha:=hl.head
  have hpos:0<val (a::l):=by
   show 0<a+4294967296*val l;rcases Nat.eq_zero_or_pos (val l)with h0|h0
   .rw[h0]at ih;have hnil:l=[]:=by rw[<-ih];rfl
    subst hnil;have:=ht (by simp);simp at this;omega
   .omega
  rw[du hpos];show(a+4294967296*val l)%4294967296::digs ((a+4294967296*val l)/4294967296)=a::l;rw[show(a+4294967296*val l)%4294967296=a by omega,show(a+4294967296*val l)/4294967296=val l by omega,ih]
theorem cT(n:Nat):Top (digs n):=by
 induction n using Nat.strongRecOn with
 |ind n ih=>
  rcases Nat.eq_zero_or_pos n with rfl|h
  .intro h;exact absurd rfl h
  .rw[du h];intro hl;by_cases hd:digs (n/4294967296)=[]
   .have h0:n/4294967296=0:=by rw[<-aF (n/4294967296),hd];rfl
    simp only[hd,List.getLast_singleton];omega
   .rw[List.getLast_cons hd];exact ih _ (by omega) hd
theorem mj(l r:List Nat):val (l++r)=val l+4294967296 ^ l.length*val r:=by
 induction l with
 |nil=>simp[val]
 |cons a l ih=>show a+4294967296*val (l++r)=a+4294967296*val l+4294967296 ^ (l.length+1)*val r;rw[ih,Nat.pow_succ,Nat.mul_add,Nat.add_assoc];congr 2;rw[<-Nat.mul_assoc,Nat.mul_comm 4294967296]
theorem sK(l:List Nat)(a:Nat):val (l++[a])=val l+4294967296 ^ l.length*a:=by rw[mj];simp[val]
theorem cU{l:List Nat}{k:Nat}(h:k<l.length):val (l.take (k+1))=val (l.take k)+4294967296 ^ k*l[k]:=by rw[List.take_succ_eq_append_getElem h,sK,List.length_take_of_le (Nat.le_of_lt h)]
theorem eK:∀{l:List Nat},Lim l->val l<4294967296 ^ l.length
 |[],_=>by decide
 |a::l,h=>by have:=eK h.tail;have:=h.head;show a+4294967296*val l<4294967296 ^ (l.length+1);rw[Nat.pow_succ];omega
theorem sL{l:List Nat}{k:Nat}(hk:k<=l.length)(h:k=0\/∃h:k-1<l.length,l[k-1]≠0):Top (l.take k):=by
 intro hne;rcases h with rfl|⟨h1,h2⟩
 .simp at hne
 .rw[List.getLast_eq_getElem];simp only[List.getElem_take,List.length_take_of_le hk];exact h2
theorem ml{l:List Nat}(hl:Lim l){k:Nat}(hk:k<=l.length)(hv:val (l.take k)=val l)(h:k=0\/∃h:k-1<l.length,l[k-1]≠0):l.take k=digs (val l):=by rw[<-hv,jC (hl.take k) (sL hk h)]
theorem eM{n:Nat}:digs n=[]↔n=0:=⟨λh=>by rw[<-aF n,h];rfl,λh=>by rw[h];rfl⟩
theorem aW{n:Nat}(h:0<n)(h':n<4294967296):digs n=[n]:=by rw[du h,Nat.mod_eq_of_lt h',Nat.div_eq_of_lt h'];rfl
theorem dR{n:Nat}(h:4294967296<=n)(h':n<18446744073709551616):digs n=[n%4294967296,n/4294967296]:=by rw[du (by omega),aW (by omega) (by omega)]
theorem f_{n k:Nat}:(digs n).length<=k↔n<4294967296 ^ k:=by
 constructor
 .intro h;rw[<-aF n];exact Nat.lt_of_lt_of_le (eK (dQ n)) (Nat.pow_le_pow_right (by decide) h)
 .intro h
  induction k generalizing n with
  |zero=>
   have:n=0:=by simpa using h
   subst this;exact Nat.le_refl _
  |succ k ih=>
   rcases Nat.eq_zero_or_pos n with rfl|hp
   .exact Nat.zero_le _
   .rw[du hp];have:n/4294967296<4294967296 ^ k:=by rw[Nat.pow_succ]at h;exact Nat.div_lt_of_lt_mul (by rw[Nat.mul_comm];exact h)
    have:=ih this;simp only[List.length_cons];omega
end Go.BI
namespace Go.Ex
theorem Pth.ab(p:Pth):p.succ.toNat=p.toNat+1:=by
 induction p with
 |e=>rfl
 |s d p ih=>
  by_cases h:d=.d31
  .subst h;show 0+32*p.succ.toNat=31+32*p.toNat+1;rw[ih];omega
  .have:(Pth.s d p).succ.toNat=d.toNat+1+32*p.toNat:=by cases d<;>first|rfl|exact absurd rfl h
   rw[this];show _=d.toNat+32*p.toNat+1;omega
theorem D.gf(d:D):D.of d.toNat=d:=by cases d<;>rfl
theorem D.sM(r:Nat)(h:r<32):(D.of r).toNat=r:=by
 have key:∀r:Fin 32,(D.of r.val).toNat=r.val:=by decide
 exact key ⟨r,h⟩
theorem sN(f n:Nat)(h:n<=f):(pathOf f n).toNat=n:=by
 induction f generalizing n with
 |zero=>
  have:n=0:=by omega
  subst this;rfl
 |succ f ih=>
  unfold pathOf;cases hb:Nat.beq n 0 with
  |true=>simp only[cond];rw[Nat.eq_of_beq_eq_true hb];rfl
  |false=>
   have hn:n≠0:=by intro e;subst e;cases hb
   simp only[cond,Pth.toNat];have h1:Nat.div n 32=n/32:=rfl;have h2:Nat.mod n 32=n%32:=rfl;rw[h1,h2,ih (n/32) (by omega),D.sM _ (by omega)];omega
theorem bN(n:Nat):(key n).toNat=n:=sN n n (Nat.le_refl _)
theorem key_inj{a b:Nat}(h:key a=key b):a=b:=by rw[<-bN a,h,bN]
theorem mn{a b:D}:dEq a b=true↔a=b:=⟨λh=>by rw[<-D.gf a,<-D.gf b,Nat.eq_of_beq_eq_true h],λh=>by subst h;exact Nat.beq_refl _⟩
theorem aD{a b:Pth}:pthEq a b=true↔a=b:=by
 induction a generalizing b with
 |e=>cases b<;>simp[pthEq]
 |s d p ih=>cases b with
  |e=>simp[pthEq]
  |s d' q=>simp[pthEq,mn,ih]
instance:DecidableEq Pth:=λa b=>decidable_of_iff (pthEq a b=true) aD
theorem gg{β:Type}(c:C8 β)(x:β)(d:D):sel (upd c x d) d=x:=by cases d<;>rfl
theorem mo{β:Type}(c:C8 β)(x:β){d d':D}(h:d≠d'):sel (upd c x d) d'=sel c d':=by
 have key:∀d d':D,dEq d d'=false->sel (upd c x d) d'=sel c d':=by intro d d' h;cases d<;>(cases d'<;>first|rfl|cases h)
 refine key d d' ?_;cases hb:dEq d d' with
 |false=>rfl
 |true=>exact absurd (mn.1 hb) h
theorem dv{α:Type}(d:D):sel (nil8:C8 (T8 α)) d=.nil:=by cases d<;>rfl
section tree
variable{α:Type}(z x:α)
theorem get_nil(p:Pth):T8.get z p .nil=z:=by cases p<;>rfl
theorem aL(p:Pth)(t:T8 α):T8.get z p (T8.put z x p t)=x:=by
 induction p generalizing t with
 |e=>cases t<;>rfl
 |s d p ih=>cases t with
  |nil=>simp only[T8.put,T8.get,gg,ih]
  |node v c=>simp only[T8.put,T8.get,gg,ih]
theorem aG{p q:Pth}(h:p≠q)(t:T8 α):T8.get z q (T8.put z x p t)=T8.get z q t:=by
 induction p generalizing t q with
 |e=>cases q with
  |e=>exact absurd rfl h
  |s d q=>cases t with
   |nil=>simp only[T8.put,T8.get,dv,get_nil]
   |node v c=>rfl
 |s d p ih=>cases q with
  |e=>cases t<;>rfl
  |s d' q=>
   by_cases hd:d=d'
   .subst hd;have hpq:p≠q:=λe=>h (by rw[e])
    cases t with
    |nil=>simp only[T8.put,T8.get,gg];rw[ih hpq,get_nil]
    |node v c=>simp only[T8.put,T8.get,gg];exact ih hpq _
   .cases t with
    |nil=>simp only[T8.put,T8.get,mo _ _ hd,dv,get_nil]
    |node v c=>simp only[T8.put,T8.get,mo _ _ hd]
end tree
inductive All2{α β:Type}(R:α->β->Prop):List α->List β->Prop where
 |nil:All2 R [] []
 |cons {a b l r} (h:R a b) (t:All2 R l r):All2 R (a::l) (b::r)
section all2
variable{α β:Type}{R R':α->β->Prop}
theorem All2.length{l:List α}{r:List β}(h:All2 R l r):l.length=r.length:=by
 induction h with
 |nil=>rfl
 |cons _ _ ih=>simp[ih]
theorem All2.imp(hi:∀a b,R a b->R' a b){l:List α}{r:List β}(h:All2 R l r):All2 R' l r:=by
 induction h with
 |nil=>exact .nil
 |cons h _ ih=>exact .cons (hi _ _ h) ih
theorem All2.get{l:List α}{r:List β}(h:All2 R l r):∀(i:Nat) (a:α),l[i]?=some a->∃b,r[i]?=some b/\R a b:=by
 induction h with
 |nil=>intro i a h;cases h
 |cons h t ih=>
  intro i a ha;cases i with
  |zero=>simp only[List.getElem?_cons_zero,Option.some.injEq]at ha;subst ha;exact⟨_,rfl,h⟩
  |succ i=>simp only[List.getElem?_cons_succ]at ha⊢;exact ih i a ha
theorem All2.get'{l:List α}{r:List β}(h:All2 R l r):∀(i:Nat) (b:β),r[i]?=some b->∃a,l[i]?=some a/\R a b:=by
 induction h with
 |nil=>intro i a h;cases h
 |cons h t ih=>
  intro i a ha;cases i with
  |zero=>simp only[List.getElem?_cons_zero,Option.some.injEq]at ha;subst ha;exact⟨_,rfl,h⟩
  |succ i=>simp only[List.getElem?_cons_succ]at ha⊢;exact ih i a ha
theorem All2.append{l l':List α}{r r':List β}(h:All2 R l r)(h':All2 R l' r'):All2 R (l++l') (r++r'):=by
 induction h with
 |nil=>exact h'
 |cons h _ ih=>exact .cons h ih
theorem All2.drop{l:List α}{r:List β}(h:All2 R l r)(n:Nat):All2 R (l.drop n) (r.drop n):=by
 induction h generalizing n with
 |nil=>simp;exact .nil
 |cons h t ih=>cases n with
  |zero=>exact .cons h t
  |succ n=>simpa using ih n
theorem All2.take{l:List α}{r:List β}(h:All2 R l r)(n:Nat):All2 R (l.take n) (r.take n):=by
 induction h generalizing n with
 |nil=>simp;exact .nil
 |cons h t ih=>cases n with
  |zero=>simp;exact .nil
  |succ n=>simp only[List.take_succ_cons];exact .cons h (ih n)
end all2
structure BI where
 blk:Nat
 base:Nat
 lim:Nat
structure Rho where
 o:Pth->Option BI
 num:Nat->Option (Array Value)
instance:CoeFun Rho (λ_=>Pth->Option BI):=⟨Rho.o⟩
structure MagOk(c:Array Value)(o len cap n:Nat):Prop where
 pos:0<n
 small:n<18446744073709551616
 len_eq:(Go.BI.digs n).length=len
 cap_le:len<=cap
 lim:o+cap<=c.size
 cells:∀i (h:i<(Go.BI.digs n).length),c[o+i]?=some (.int .u32 ((Go.BI.digs n)[i]:Nat))
theorem MagOk.lenN{c:Array Value}{o len cap n:Nat}(h:MagOk c o len cap n):len=magN n:=by
 rw[<-h.len_eq];unfold magN;cases h1:Nat.blt n 4294967296 with
 |true=>rw[Go.BI.aW h.pos (Nat.le_of_ble_eq_true h1)];rfl
 |false=>
  have hge:4294967296<=n:=Nat.le_of_not_lt λhl=>by rw[show Nat.blt n 4294967296=true from Nat.ble_eq_true_of_le hl]at h1;cases h1
  rw[Go.BI.dR hge h.small];rfl
theorem MagOk.dig{c:Array Value}{o len cap n k:Nat}(h:MagOk c o len cap n)(hk:k<len):c[o+k]?=some (.int .u32 (.ofNat (magD n k))):=by
 have h2:=h.cells;rw[h.lenN]at hk;unfold magN at hk;unfold magD;cases h1:Nat.blt n 4294967296 with
 |true=>
  rw[h1]at hk;have:k=0:=by simp only[cond]at hk;omega
  subst this;have hlt:n<4294967296:=Nat.le_of_ble_eq_true h1;have:=h2 0 (by rw[Go.BI.aW h.pos hlt];simp);simp only[Go.BI.aW h.pos hlt]at this;rw[this];show some (Value.int .u32 (n:Nat))=some (Value.int .u32 ((n%4294967296:Nat)));rw[Nat.mod_eq_of_lt hlt]
 |false=>
  have hge:4294967296<=n:=Nat.le_of_not_lt λhl=>by rw[show Nat.blt n 4294967296=true from Nat.ble_eq_true_of_le hl]at h1;cases h1
  rw[h1]at hk;simp only[cond]at hk;have hd:=Go.BI.dR hge h.small;have:k=0\/k=1:=by omega
  rcases this with rfl|rfl
  .have:=h2 0 (by rw[hd];simp);simp only[hd]at this;exact this
  .have:=h2 1 (by rw[hd];simp);simp only[hd]at this;exact this
inductive VR(ρ:Rho)(ω:Nat->Value):AVal->Value->Prop where
 |bad (v:Value):VR ρ ω .bad v
 |pnil:VR ρ ω .pnil (.pointer none)
 |se (a:Addr) (cap:Nat):VR ρ ω .se (.slice (some a) 0 cap)
 |snil:VR ρ ω .snil (.slice none 0 0)
 |fnil:VR ρ ω .fnil .nilFunc
 |mnil:VR ρ ω .mnil (.map none)
 |opq (i:Nat):VR ρ ω (.opq i) (ω i)
 |mag (n b o len cap:Nat) (c:Array Value) (h:ρ.num b=some c) (hm:MagOk c o len cap n):VR ρ ω (.mag n) (.slice (some ⟨b,o,none⟩) len cap)
 |mptr (n k b o len cap:Nat) (c:Array Value) (h:ρ.num b=some c) (hm:MagOk c o len cap n) (hk:k<len):VR ρ ω (.mptr n k) (.pointer (some ⟨b,o+k,none⟩))
 |yld (l:Pth) (i:BI) (h:ρ l=some i):VR ρ ω (.yld l) (.func (.yield i.blk) #[] #[])
 |str (s:ByteArray):VR ρ ω (.str s) (.string s)
 |map (id:Pth) (i:BI) (h:ρ id=some i):VR ρ ω (.map id) (.map (some i.blk))
 |fnv (f:Nat) (caps:List AVal) (cs:List Value) (h:All2 (VR ρ ω) caps cs):VR ρ ω (.fnv (key f) caps) (.func (.func f) #[] cs.toArray)
 |tup (l:List AVal) (vs:List Value) (h:All2 (VR ρ ω) l vs):VR ρ ω (.tup l) (.tuple vs.toArray)
 |agg (l:List AVal) (vs:List Value) (h:All2 (VR ρ ω) l vs) (hc:∀v∈vs,v.oneCell'=true):VR ρ ω (.agg l) (.agg vs.toArray)
 |sg (id:Pth) (off len esz cap:Nat) (i:BI) (h:ρ id=some i) (hl:len<=cap) (hr:off+cap*esz<=i.lim) :
  VR ρ ω (.sg id off len esz) (.slice (some ⟨i.blk,i.base+off,none⟩) len cap)
 |sl (id:Pth) (off len cap:Nat) (i:BI) (h:ρ id=some i):VR ρ ω (.sl id off len cap) (.slice (some ⟨i.blk,i.base+off,none⟩) len cap)
 |ptr (id:Pth) (off:Nat) (i:BI) (h:ρ id=some i):VR ρ ω (.ptr id off) (.pointer (some ⟨i.blk,i.base+off,none⟩))
 |bool (b:Bool):VR ρ ω (.bool b) (.bool b)
 |int (k:IntKind) (n:Int):VR ρ ω (.int k n) (.int k n)
structure Sub(ρ ρ':Rho):Prop where
 get:∀id i,ρ id=some i->ρ' id=some i
 num:∀b c,ρ.num b=some c->ρ'.num b=some c
instance{ρ ρ':Rho}:CoeFun (Sub ρ ρ') (λ_=>∀id i,ρ id=some i->ρ' id=some i):=⟨Sub.get⟩
theorem Sub.refl(ρ:Rho):Sub ρ ρ:=⟨λ_ _ h=>h,λ_ _ h=>h⟩
theorem Sub.trans{a b c:Rho}(h:Sub a b)(h':Sub b c):Sub a c:=⟨λid i x=>h' id i (h id i x),λb c x=>h'.num b c (h.num b c x)⟩
theorem VR.mono{ρ ρ':Rho}{ω:Nat->Value}(hs:Sub ρ ρ'){x:AVal}{v:Value}(h:VR ρ ω x v):VR ρ' ω x v:=by
 refine VR.rec (motive_1:=λx v _=>VR ρ' ω x v) (motive_2:=λl r _=>All2 (VR ρ' ω) l r)
  ?_ ?_ ?_ ?_ ?_ ?_ ?_ ?_ ?_ ?_ ?_ ?_ ?_ ?_ ?_ ?_ ?_ ?_ ?_ ?_ ?_ ?_ h
 .exactλv=>.bad v
 .exact .pnil
 .exactλa c=>.se a c
 .exact .snil
 .exact .fnil
 .exact .mnil
 .exactλi=>.opq i
 .exactλn b o len cap c h hm=>.mag n b o len cap c (hs.num _ _ h) hm
 .exactλn k b o len cap c h hm hk=>.mptr n k b o len cap c (hs.num _ _ h) hm hk
 .exactλl i h=>.yld l i (hs _ _ h)
 .exactλs=>.str s
 .exactλid i h=>.map id i (hs _ _ h)
 .exactλf caps cs _ ih=>.fnv f caps cs ih
 .exactλl vs _ ih=>.tup l vs ih
 .exactλl vs _ hc ih=>.agg l vs ih hc
 .exactλid off len esz cap i h hl hr=>.sg id off len esz cap i (hs _ _ h) hl hr
 .exactλid off len cap i h=>.sl id off len cap i (hs _ _ h)
 .exactλid off i h=>.ptr id off i (hs _ _ h)
 .exactλb=>.bool b
 .exactλk n=>.int k n
 .exact .nil
 .exactλ_ _ h t=>.cons h t
theorem VRs.mono{ρ ρ':Rho}{ω:Nat->Value}(hs:Sub ρ ρ'){l:List AVal}{r:List Value}(h:All2 (VR ρ ω) l r):All2 (VR ρ' ω) l r:=h.imp λ_ _ x=>x.mono hs
end Go.Ex
namespace Go.Ex
open Go
def EnvOk(ρ:Rho)(ω:Nat->Value)(S:List (Nat×Pth))(e:T8 AVal)(tm:Array Value):Prop:=∀t p,look S t=some p->VR ρ ω (e.get .bad p) (tm.getD t undef)
structure ArrOk(ρ:Rho)(ω:Nat->Value)(c:Array Value)(i:BI)(esz n:Nat)(d:List AVal)(els:T8 (List AVal)):Prop where
 lim:n*esz<=i.lim
 size:i.base+i.lim<=c.size
 els:∀j,j<n->∃vs,All2 (VR ρ ω) (elem j d els) vs/\vs.length=esz/\(∀v∈vs,v.oneCell'=true)/\∀k v,vs[k]?=some v->c[i.base+j*esz+k]?=some v
section
variable(P:Program)
structure LoopOk(ρ:Rho)(ω:Nat->Value)(ready:Bool)(env:T8 AVal)(ps:List Pth)(as bd:CC)(r:Loop):Prop where
 ok:∃S A,slotsOk S=true/\EnvOk ρ ω S env r.tmps/\r.params.toList.mapM (look S)=some ps/\(r.params.all λt=>Nat.blt t r.tmps.size)=true/\
  cCode P r.tmps.size S A r.assign=some as/\cCode P r.tmps.size S A r.body=some bd
 nor:noRange as=true/\noRange bd=true
 state:r.state=if ready then .ready else .busy
 pending:r.pending=none
def ObjOk(ρ:Rho)(ω:Nat->Value)(w:World)(id:Pth):AObj->Prop
 |.dead=>True
 |.arr esz n d els=>∃i c T,ρ id=some i/\w.heap[i.blk]?=some (.cells c T (0,0))/\ArrOk ρ ω c i esz n d els
 |.ro esz n d els=>∃i c T fz,ρ id=some i/\w.heap[i.blk]?=some (.cells c T fz)/\ArrOk ρ ω c i esz n d els
 |.mp es=>∃i ents clk,ρ id=some i/\w.heap[i.blk]?=some (.map ents clk)/\All2 (λa b=>VR ρ ω a.1 b.key/\VR ρ ω a.2 b.val) es ents.toList
 |.lp ready env ps as bd=>∃i r,ρ id=some i/\w.heap[i.blk]?=some (.loop r)/\LoopOk P ρ ω ready env ps as bd r
 |.fwd to esz n d els=>∃i,ρ id=some i/\((∃i',ρ to=some i'/\i'.blk=i.blk/\i'.base=i.base)\/∃c,ρ.num i.blk=some c/\ArrOk ρ ω c i esz n d els)
def owned:AObj->Bool
 |.dead=>false
 |.ro _ _ _ _=>false
 |.fwd _ _ _ _ _=>false
 |_=>true
def live:AObj->Bool
 |.dead=>false
 |.fwd _ _ _ _ _=>false
 |_=>true
theorem aj{o:AObj}(h:owned o=true):live o=true:=by cases o<;>simp_all [owned,live]
structure HR(ρ:Rho)(ω:Nat->Value)(H:AH)(w:World):Prop where
 ok:∀id,ObjOk P ρ ω w id (H.m.get .dead id)
 inj:∀id id' i i',owned (H.m.get .dead id)=true->live (H.m.get .dead id')=true->id≠id'->ρ id=some i->ρ id'=some i'->i.blk≠i'.blk
 fresh:∀id i,ρ id=some i->id.toNat<H.next.toNat
 num:∀b c,ρ.num b=some c->(∃T,w.heap[b]?=some (.cells c T (0,0)))/\∀id i,owned (H.m.get .dead id)=true->ρ id=some i->i.blk≠b
def Img(ρ:Rho)(H:AH)(b:Nat):Prop:=∃id i,live (H.m.get .dead id)=true/\ρ id=some i/\i.blk=b
def ImgO(ρ:Rho)(H:AH)(b:Nat):Prop:=∃id i,owned (H.m.get .dead id)=true/\ρ id=some i/\i.blk=b
theorem ImgO.al{ρ:Rho}{H:AH}{b:Nat}(h:ImgO ρ H b):Img ρ H b:=let ⟨id,i,h1,h2,h3⟩:=h;⟨id,i,aj h1,h2,h3⟩
structure Step(ρ:Rho)(ω:Nat->Value)(H:AH)(w:World)(ρ':Rho)(H':AH)(w':World):Prop where
 sub:Sub ρ ρ'
 hr:HR P ρ' ω H' w'
 os:w'.os=w.os
 tape:w'.tape=w.tape
 output:w'.output=w.output
 size:w.heap.size<=w'.heap.size
 keep:∀b,b<w.heap.size->¬ImgO ρ H b->w'.heap[b]?=w.heap[b]?
 al:∀b,b<w.heap.size->Img ρ' H' b->Img ρ H b
 imgo:∀b,b<w.heap.size->ImgO ρ' H' b->ImgO ρ H b
 next:H.next.toNat<=H'.next.toNat
 dom:∀id i,ρ' id=some i->id.toNat<H.next.toNat->ρ id=some i
 idle:∀id,id.toNat<H.next.toNat->H.m.get .dead id=.dead->H'.m.get .dead id=.dead
 nums:∀b c,ρ'.num b=some c->ρ.num b=some c\/w.heap.size<=b\/ImgO ρ H b
variable{P}
theorem HR.dS{ρ:Rho}{ω:Nat->Value}{H:AH}{w:World}(h:HR P ρ ω H w){b:Nat}{c:Array Value}(hb:ρ.num b=some c):b<w.heap.size:=let ⟨⟨_,hT⟩,_⟩:=h.num b c hb;(Array.getElem?_eq_some_iff.1 hT).1
theorem Step.refl{ρ:Rho}{ω:Nat->Value}{H:AH}{w:World}(h:HR P ρ ω H w):Step P ρ ω H w ρ H w:=⟨.refl _,h,rfl,rfl,rfl,Nat.le_refl _,λ_ _ _=>rfl,λ_ _ h=>h,λ_ _ h=>h,Nat.le_refl _,λ_ _ h _=>h,λ_ _ h=>h,λ_ _ h=>.inl h⟩
theorem Step.trans{ρ ρ' ρ'':Rho}{ω:Nat->Value}{H H' H'':AH}{w w' w'':World}(a:Step P ρ ω H w ρ' H' w')(b:Step P ρ' ω H' w' ρ'' H'' w''):Step P ρ ω H w ρ'' H'' w'' where
 sub:=a.sub.trans b.sub
 hr:=b.hr
 os:=b.os.trans a.os
 tape:=b.tape.trans a.tape
 output:=b.output.trans a.output
 size:=Nat.le_trans a.size b.size
 keep:=λk hk hn=>(b.keep k (Nat.lt_of_lt_of_le hk a.size) λhi=>hn (a.imgo k hk hi)).trans (a.keep k hk hn)
 al:=λk hk hi=>a.al k hk (b.al k (Nat.lt_of_lt_of_le hk a.size) hi)
 imgo:=λk hk hi=>a.imgo k hk (b.imgo k (Nat.lt_of_lt_of_le hk a.size) hi)
 next:=Nat.le_trans a.next b.next
 idle:=λid hl h=>b.idle id (Nat.lt_of_lt_of_le hl a.next) (a.idle id hl h)
 nums:=λk c h=>(b.nums k c h).elim (λh=>a.nums k c h) λh=>h.elim (λh=>.inr (.inl (Nat.le_trans a.size h))) λh=>(Nat.lt_or_ge k w.heap.size).elim (λhk=>.inr (.inr (a.imgo k hk h))) λhk=>.inr (.inl hk)
 dom:=λid i h hl=>a.dom id i (b.dom id i h (Nat.lt_of_lt_of_le hl a.next)) hl
theorem EnvOk.mono{ρ ρ':Rho}{ω:Nat->Value}(hs:Sub ρ ρ'){S:List (Nat×Pth)}{e:T8 AVal}{tm:Array Value}(h:EnvOk ρ ω S e tm):EnvOk ρ' ω S e tm:=λt p hp=>(h t p hp).mono hs
theorem ArrOk.mono{ρ ρ':Rho}{ω:Nat->Value}(hs:Sub ρ ρ'){c:Array Value}{i:BI}{esz n:Nat}{d:List AVal}{els:T8 (List AVal)}(h:ArrOk ρ ω c i esz n d els):ArrOk ρ' ω c i esz n d els:=⟨h.lim,h.size,λj hj=>let ⟨vs,a,b,c,e⟩:=h.els j hj;⟨vs,VRs.mono hs a,b,c,e⟩⟩
theorem ObjOk.mono{ρ ρ':Rho}{ω:Nat->Value}{w w':World}{id:Pth}{o:AObj}(hs:Sub ρ ρ')(hw:∀i,ρ id=some i->w'.heap[i.blk]?=w.heap[i.blk]?)(h:ObjOk P ρ ω w id o):ObjOk P ρ' ω w' id o:=by
 cases o with
 |dead=>trivial
 |arr esz n d els=>obtain⟨i,c,T,hi,hc,ha⟩:=h;exact⟨i,c,T,hs _ _ hi,(hw i hi).trans hc,ha.mono hs⟩
 |ro esz n d els=>obtain⟨i,c,T,fz,hi,hc,ha⟩:=h;exact⟨i,c,T,fz,hs _ _ hi,(hw i hi).trans hc,ha.mono hs⟩
 |fwd to esz n d els=>obtain⟨i,hi,h⟩:=h;refine⟨i,hs _ _ hi,h.elim (λ⟨i',h1,h2⟩=>.inl ⟨i',hs _ _ h1,h2⟩) λ⟨c,h1,h2⟩=>.inr ⟨c,hs.num _ _ h1,h2.mono hs⟩⟩
 |mp es=>obtain⟨i,en,ck,hi,hc,ha⟩:=h;exact⟨i,en,ck,hs _ _ hi,(hw i hi).trans hc,ha.imp λ_ _ x=>⟨x.1.mono hs,x.2.mono hs⟩⟩
 |lp ready env ps as bd=>obtain⟨i,r,hi,hc,ha⟩:=h;obtain⟨⟨S,A,h1,h2,h3⟩,hnr,hst,hpe⟩:=ha;exact⟨i,r,hs _ _ hi,(hw i hi).trans hc,⟨S,A,h1,h2.mono hs,h3⟩,hnr,hst,hpe⟩
theorem ObjOk.idle{ρ ρ':Rho}{ω:Nat->Value}{w w':World}{id:Pth}{o:AObj}(hl:¬live o=true)(hs:Sub ρ ρ')(h:ObjOk P ρ ω w id o):ObjOk P ρ' ω w' id o:=by
 cases o with
 |dead=>trivial
 |fwd to esz n d els=>obtain⟨i,hi,h⟩:=h;exact⟨i,hs _ _ hi,h.elim (λ⟨i',h1,h2⟩=>.inl ⟨i',hs _ _ h1,h2⟩) λ⟨c,h1,h2⟩=>.inr ⟨c,hs.num _ _ h1,h2.mono hs⟩⟩
 |_=>exact absurd rfl hl
theorem ObjOk.lt{ρ:Rho}{ω:Nat->Value}{w:World}{id:Pth}{o:AObj}(h:ObjOk P ρ ω w id o)(hl:live o=true):∃i,ρ id=some i/\i.blk<w.heap.size:=by
 have key:∀(b:Nat) (x:Obj),w.heap[b]?=some x->b<w.heap.size:=λb x hx=>(Array.getElem?_eq_some_iff.1 hx).1
 cases o with
 |dead=>cases hl
 |fwd _ _ _ _ _=>cases hl
 |arr esz n d els=>obtain⟨i,c,T,hi,hc,_⟩:=h;exact⟨i,hi,key _ _ hc⟩
 |ro esz n d els=>obtain⟨i,c,T,fz,hi,hc,_⟩:=h;exact⟨i,hi,key _ _ hc⟩
 |mp es=>obtain⟨i,en,ck,hi,hc,_⟩:=h;exact⟨i,hi,key _ _ hc⟩
 |lp ready env ps as bd=>obtain⟨i,r,hi,hc,_⟩:=h;exact⟨i,hi,key _ _ hc⟩
theorem mq(n:Nat)(l:List AVal):dropN n l=l.drop n:=by
 induction n generalizing l with
 |zero=>rfl
 |succ n ih=>cases l with
  |nil=>rfl
  |cons a l=>exact ih l
theorem mr{n:Nat}{l r:List AVal}(h:takeN n l=some r):r=l.take n/\n<=l.length:=by
 induction n generalizing l r with
 |zero=>simp only[takeN,Option.some.injEq]at h;subst h;simp
 |succ n ih=>cases l with
  |nil=>cases h
  |cons a l=>
   unfold takeN at h;cases hq:takeN n l with
   |none=>rw[hq]at h;cases h
   |some q=>rw[hq]at h;simp only[Option.some.injEq]at h;obtain⟨h1,h2⟩:=ih hq;subst h h1;exact⟨rfl,by simp;omega⟩
theorem sO{new l r:List AVal}(h:over new l=some r):r=new++l.drop new.length/\new.length<=l.length:=by
 induction new generalizing l r with
 |nil=>simp only[over,Option.some.injEq]at h;subst h;simp
 |cons a new ih=>cases l with
  |nil=>cases h
  |cons b l=>
   unfold over at h;cases hq:over new l with
   |none=>rw[hq]at h;cases h
   |some q=>rw[hq]at h;simp only[Option.some.injEq]at h;obtain⟨h1,h2⟩:=ih hq;subst h h1;exact⟨rfl,by simp;omega⟩
theorem mw{n:Nat}{new l r:List AVal}(h:overAt n new l=some r):r=l.take n++new++l.drop (n+new.length)/\n+new.length<=l.length:=by
 induction n generalizing l r with
 |zero=>obtain⟨h1,h2⟩:=sO (show over new l=some r by cases l<;>exact h);subst h1;exact⟨by simp,by omega⟩
 |succ n ih=>cases l with
  |nil=>cases h
  |cons b l=>
   unfold overAt at h;cases hq:overAt n new l with
   |none=>rw[hq]at h;cases h
   |some q=>rw[hq]at h;simp only[Option.some.injEq]at h;obtain⟨h1,h2⟩:=ih hq;subst h h1;refine⟨?_,by simp;omega⟩;rw[show n+1+new.length=(n+new.length)+1 by omega];rfl
theorem cV{l:List AVal}{n:Nat}(h:lenIs l n=true):l.length=n:=by
 induction l generalizing n with
 |nil=>exact(Nat.eq_of_beq_eq_true h).symm
 |cons a l ih=>
  unfold lenIs at h;cases hb:Nat.beq n 0 with
  |true=>rw[hb]at h;cases h
  |false=>
   rw[hb]at h;have:=ih h;have hn:n≠0:=by intro e;subst e;cases hb
   simp only[List.length_cons,this];have:Nat.pred n=n-1:=rfl;omega
theorem gh(l:List AVal):lenN l=l.length:=by
 induction l with
 |nil=>rfl
 |cons a l ih=>simp only[lenN,ih,List.length_cons]
theorem jD{j:Nat}{d c:List AVal}{els:T8 (List AVal)}:elem j d (els.put [] c (key j))=orElse d c:=by unfold elem;rw[aL]
theorem dT{j k:Nat}(h:j≠k){d c:List AVal}{els:T8 (List AVal)}:elem j d (els.put [] c (key k))=elem j d els:=by unfold elem;rw[aG _ _ (λe=>h (key_inj e).symm)]
theorem bE{d c:List AVal}(h:c≠[]):orElse d c=c:=by cases c with
 |nil=>exact absurd rfl h
 |cons a l=>rfl
theorem eN{ρ:Rho}{ω:Nat->Value}(hω:∀i,(ω i).oneCell'=true){x:AVal}{v:Value}(h:VR ρ ω x v)(hne:x.cells≠[]):All2 (VR ρ ω) x.cells v.cells.toList/\∀u∈v.cells.toList,u.oneCell'=true:=by
 cases h with
 |bad v=>exact absurd rfl hne
 |tup l vs h=>exact absurd rfl hne
 |agg l vs h hc=>exact⟨by simpa [AVal.cells,Value.cells]using h,by simpa [Value.cells]using hc⟩
 |opq i=>
  have hc:(ω i).cells=#[ω i]:=by have:=hω i;cases hv:ω i<;>simp_all [Value.oneCell',Value.cells]
  rw[hc];exact⟨.cons (.opq i) .nil,by simpa using hω i⟩
 |mag n b o len cap c h hm=>exact⟨.cons (.mag n b o len cap c h hm) .nil,by simp[Value.cells,Value.oneCell']⟩
 |mptr n k b o len cap c h hm hk=>exact⟨.cons (.mptr n k b o len cap c h hm hk) .nil,by simp[Value.cells,Value.oneCell']⟩
 |pnil=>exact⟨.cons .pnil .nil,by simp[Value.cells,Value.oneCell']⟩
 |se a c=>exact⟨.cons (.se a c) .nil,by simp[Value.cells,Value.oneCell']⟩
 |snil=>exact⟨.cons .snil .nil,by simp[Value.cells,Value.oneCell']⟩
 |fnil=>exact⟨.cons .fnil .nil,by simp[Value.cells,Value.oneCell']⟩
 |mnil=>exact⟨.cons .mnil .nil,by simp[Value.cells,Value.oneCell']⟩
 |yld l i hi=>exact⟨.cons (.yld l i hi) .nil,by simp[Value.cells,Value.oneCell']⟩
 |str s=>exact⟨.cons (.str s) .nil,by simp[Value.cells,Value.oneCell']⟩
 |map id i hi=>exact⟨.cons (.map id i hi) .nil,by simp[Value.cells,Value.oneCell']⟩
 |fnv f caps cs hcs=>exact⟨.cons (.fnv f caps cs hcs) .nil,by simp[Value.cells,Value.oneCell']⟩
 |sg id off len esz cap i hi hl hr=>exact⟨.cons (.sg id off len esz cap i hi hl hr) .nil,by simp[Value.cells,Value.oneCell']⟩
 |sl id off len cap i hi=>exact⟨.cons (.sl id off len cap i hi) .nil,by simp[Value.cells,Value.oneCell']⟩
 |ptr id off i hi=>exact⟨.cons (.ptr id off i hi) .nil,by simp[Value.cells,Value.oneCell']⟩
 |bool b=>exact⟨.cons (.bool b) .nil,by simp[Value.cells,Value.oneCell']⟩
 |int k n=>exact⟨.cons (.int k n) .nil,by simp[Value.cells,Value.oneCell']⟩
theorem dU{t:TypeId}{b:Bool}(h:tAgg P t=some b)(w:World):(isAgg t).run P w=.ok b w:=by
 unfold tAgg at h;cases hu:P.underlying t with
 |none=>rw[hu]at h;cases h
 |some d=>rw[hu]at h;simp only[Option.map_some,Option.some.injEq]at h;subst h;unfold isAgg;rw[Sem.run_bind,run_underlying hu];cases d<;>rfl
theorem bs{t:TypeId}{n:Nat}(h:tSize P t=some n)(w:World):(sizeOf t).run P w=.ok n w:=by
 unfold tSize at h;cases hi:P.info? t with
 |none=>rw[hi]at h;cases h
 |some i=>rw[hi]at h;simp only[Option.map_some,Option.some.injEq]at h;subst h;simp[sizeOf,typeInfo,hi]
end
end Go.Ex
namespace Go.Ex
open Go
variable{P:Program}{ρ:Rho}{ω:Nat->Value}{H:AH}{w:World}
theorem bO(b o n:Nat):(⟨b,o,none⟩:Addr).add n=⟨b,o+n,none⟩:=by
 unfold Addr.add;split
 .simp_all
 .rfl
theorem cW{b:Nat}{c:Array Value}{T:TypeId}{fz:Nat×Nat}(h:w.heap[b]?=some (.cells c T fz))(o:Nat):w.cell? ⟨b,o,none⟩=c[o]?:=by simp[World.cell?,h]
theorem ArrOk.part{c:Array Value}{i:BI}{esz n:Nat}{d:List AVal}{els:T8 (List AVal)}(ha:ArrOk ρ ω c i esz n d els){off sz:Nat}{l:List AVal}(hj:Nat.blt (Nat.div off esz) n=true)(ht:takeN sz (dropN (Nat.mod off esz) (elem (Nat.div off esz) d els))=some l):∃vs,All2 (VR ρ ω) l vs/\vs.length=sz/\(∀v∈vs,v.oneCell'=true)/\∀k v,vs[k]?=some v->c[i.base+off+k]?=some v:=by
 have hlt:off/esz<n:=by have:Nat.ble (Nat.div off esz+1) n=true:=hj;exact Nat.le_of_ble_eq_true this
 obtain⟨vs,h1,h2,h3,h4⟩:=ha.els _ hlt;rw[mq]at ht;obtain⟨e1,e2⟩:=mr ht;subst e1;refine⟨(vs.drop (off%esz)).take sz,(h1.drop _).take _,?_,λv hv=>h3 v (List.mem_of_mem_drop (List.mem_of_mem_take hv)),λk v hk=>?_⟩
 .have:=(h1.drop (off%esz)).length;have e3:Nat.mod off esz=off%esz:=rfl;have e4:Nat.div off esz=off/esz:=rfl;rw[e3,e4,this]at e2;simp only[List.length_take];omega
 .have hk':vs[off%esz+k]?=some v:=by
   rw[List.getElem?_take]at hk;split at hk
   .rw[List.getElem?_drop]at hk;exact hk
   .cases hk
  have:=h4 _ _ hk';rw[<-this];congr 1;have:=Nat.div_add_mod off esz;rw[Nat.mul_comm]at this;omega
theorem jE{agg:Bool}{l:Option (List AVal)}{v:AVal}(h:single agg l=v)(hv:v≠.bad):∃c,l=some c/\((agg=true/\v=.agg c)\/(agg=false/\c=[v])):=by
 cases l with
 |none=>exact absurd h.symm hv
 |some c=>
  refine⟨c,rfl,?_⟩;cases agg with
  |true=>exact .inl ⟨rfl,h.symm⟩
  |false=>
   refine .inr ⟨rfl,?_⟩
   match c,h with
   |[],h=>exact absurd h.symm hv
   |[a],h=>exact congrArg (λx=>[x]) h
   |_::_::_,h=>exact absurd h.symm hv
theorem gi{b:Nat}{c:Array Value}{T:TypeId}{fz:Nat×Nat}(hb:w.heap[b]?=some (.cells c T fz)){o:Nat}{vs:List Value}(h:∀k v,vs[k]?=some v->c[o+k]?=some v):(loadCells ⟨b,o,none⟩ vs.length).run P w=.ok vs.toArray w:=run_loadCells_list w _ vs λj v hj=>by rw[bO,cW hb];exact h j v hj
theorem jF{t:TypeId}{agg:Bool}{sz:Nat}(hagg:tAgg P t=some agg)(hsz:tSize P t=some sz){b:Nat}{c:Array Value}{T:TypeId}{fz:Nat×Nat}(hb:w.heap[b]?=some (.cells c T fz)){i:BI}{esz n:Nat}{d:List AVal}{els:T8 (List AVal)}(ha:ArrOk ρ ω c i esz n d els){off:Nat}{v:AVal}(h:cellsAt agg sz esz n d els off=v)(hv:v≠.bad):∃v',(loadVar t ⟨b,i.base+off,none⟩).run P w=.ok v' w/\VR ρ ω v v':=by
 unfold cellsAt at h;cases hj:Nat.blt (Nat.div off esz) n with
 |false=>rw[hj]at h;exact absurd h.symm hv
 |true=>
  rw[hj]at h;obtain⟨l,hl,hr⟩:=jE h hv;obtain⟨vs,h1,h2,h3,h4⟩:=ha.part hj hl;rcases hr with⟨rfl,rfl⟩|⟨rfl,rfl⟩
  .refine⟨.agg vs.toArray,?_,.agg _ _ h1 h3⟩;unfold loadVar;rw[Sem.run_bind,dU hagg];simp only[Result.andThen_ok,if_true,Sem.run_bind,bs hsz];rw[<-h2,gi hb h4];rfl
  .obtain⟨u,hu,hvu⟩:=h1.get 0 v rfl;refine⟨u,?_,hvu⟩;have hc:=h4 0 u hu;simp only[Nat.add_zero]at hc;unfold loadVar;rw[Sem.run_bind,dU hagg];simp only[Result.andThen_ok,Bool.false_eq_true,if_false,run_load,cW hb,hc]
theorem bY(x y:Int):intEq x y=(x==y):=by
 cases x with
 |ofNat m=>cases y with
  |ofNat n=>show Nat.beq m n=(Int.ofNat m==Int.ofNat n);rw[Bool.eq_iff_iff];simp only[Nat.beq_eq,beq_iff_eq];exact⟨λh=>by rw[h],λh=>Int.ofNat.inj h⟩
  |negSucc n=>show false=(Int.ofNat m==Int.negSucc n);rw[Bool.eq_iff_iff];simp
 |negSucc m=>cases y with
  |ofNat n=>show false=(Int.negSucc m==Int.ofNat n);rw[Bool.eq_iff_iff];simp
  |negSucc n=>show Nat.beq m n=(Int.negSucc m==Int.negSucc n);rw[Bool.eq_iff_iff];simp
theorem jG(x y:Bool):boolEq x y=(x==y):=by cases x<;>cases y<;>rfl
theorem gj{k l:IntKind}:kindEq k l=true↔k=l:=by cases k<;>cases l<;>simp[kindEq]
theorem eP{x y:AVal}(h:x.eq1 y=true):x=y:=by
 have ik:∀{a b:Int},intEq a b=true->a=b:=λ{a b} h=>by rw[bY]at h;exact eq_of_beq h
 unfold AVal.eq1 at h;split at h
 .rw[jG]at h;rw[eq_of_beq h]
 .rw[Bool.and_eq_true]at h;rw[gj.1 h.1,ik h.2]
 .rw[Bool.and_eq_true]at h;rw[aD.1 h.1,Nat.eq_of_beq_eq_true h.2]
 .rfl
 .simp only[Bool.and_eq_true]at h;rw[aD.1 h.1,Nat.eq_of_beq_eq_true h.2.1,Nat.eq_of_beq_eq_true h.2.2.1,Nat.eq_of_beq_eq_true h.2.2.2]
 .simp only[Bool.and_eq_true]at h;rw[aD.1 h.1,Nat.eq_of_beq_eq_true h.2.1,Nat.eq_of_beq_eq_true h.2.2.1,Nat.eq_of_beq_eq_true h.2.2.2]
 .rfl
 .rfl
 .rw[Nat.eq_of_beq_eq_true h]
 .rfl
 .rfl
 .rw[aD.1 h]
 .cases h
theorem eQ{l r:List AVal}(h:eqL l r=true):l=r:=by
 induction l generalizing r with
 |nil=>cases r with
  |nil=>rfl
  |cons _ _=>cases h
 |cons a l ih=>cases r with
  |nil=>cases h
  |cons b r=>unfold eqL at h;rw[Bool.and_eq_true]at h;rw[eP h.1,ih h.2]
theorem eR{x y:AVal}(h:x.eqv y=true):x=y:=by
 unfold AVal.eqv at h;split at h
 .rw[eQ h]
 .rw[Bool.and_eq_true]at h;rw[aD.1 h.1,eQ h.2]
 .exact eP h
theorem sP(hr:HR P ρ ω H w){t:TypeId}{agg:Bool}{sz:Nat}(hagg:tAgg P t=some agg)(hsz:tSize P t=some sz){v:AVal}(hv:v≠.bad)(f:Nat):∀{id:Pth} {off:Nat} {i:BI},ρ id=some i->loadF H agg sz f id off=v->∃v',(loadVar t ⟨i.blk,i.base+off,none⟩).run P w=.ok v' w/\VR ρ ω v v':=by
 induction f with
 |zero=>intro id off i _ h;exact absurd h.symm hv
 |succ f ih=>
  intro id off i hi h;have hok:=hr.ok id;unfold loadF at h;cases ho:H.m.get .dead id with
  |arr esz n d els=>rw[ho]at hok h;obtain⟨i',c,T,hi',hc,ha⟩:=hok;rw[hi]at hi';cases hi';exact jF hagg hsz hc ha h hv
  |ro esz n d els=>rw[ho]at hok h;obtain⟨i',c,T,fz,hi',hc,ha⟩:=hok;rw[hi]at hi';cases hi';exact jF hagg hsz hc ha h hv
  |dead=>rw[ho]at h;exact absurd h.symm hv
  |lp _ _ _ _ _=>rw[ho]at h;exact absurd h.symm hv
  |mp _=>rw[ho]at h;exact absurd h.symm hv
  |fwd to esz n d els=>
   rw[ho]at hok h;simp only at h;cases he:(loadF H agg sz f to off).eqv (cellsAt agg sz esz n d els off)with
   |false=>rw[he]at h;exact absurd h.symm hv
   |true=>
    rw[he]at h;have h:cellsAt agg sz esz n d els off=v:=h;obtain⟨i',hi',hc⟩:=hok;rw[hi]at hi';cases hi';rcases hc with⟨j,hj,e1,e2⟩|⟨c,hc,ha⟩
    .have:=ih hj ((eR he).trans h);rw[e1,e2]at this;exact this
    .obtain⟨⟨T,hT⟩,_⟩:=hr.num _ _ hc;exact jF hagg hsz hT ha h hv
theorem mz(H:AH)(agg:Bool)(sz:Nat)(id:Pth)(off:Nat):loadAt H agg sz id off=loadF H agg sz 100 id off:=rfl
theorem mA(hr:HR P ρ ω H w){t:TypeId}{agg:Bool}{sz:Nat}(hagg:tAgg P t=some agg)(hsz:tSize P t=some sz){x v:AVal}{x':Value}(hx:VR ρ ω x x')(h:loadV H agg sz x=v)(hv:v≠.bad):∃v',(Instr.loadAt t x').run P w=.ok v' w/\VR ρ ω v v':=by
 cases hx with
 |ptr id off i hi=>have h':loadAt H agg sz id off=v:=h;rw[mz]at h';unfold Instr.loadAt Instr.sureAddr;rw[Sem.run_bind,Sem.run_pure,Result.andThen_ok];exact sP hr hagg hsz hv 100 hi h'
 |mptr n k b o len cap c hc hm hk=>
  obtain⟨⟨T,hT⟩,_⟩:=hr.num b c hc;have h':(bif agg then .bad else bif Nat.beq sz 1 then AVal.int .u32 (.ofNat (magD n k))else .bad)=v:=h;cases agg with
  |true=>exact absurd h'.symm hv
  |false=>
   cases hz:Nat.beq sz 1 with
   |false=>rw[hz]at h';exact absurd h'.symm hv
   |true=>rw[hz]at h';have h':AVal.int .u32 (.ofNat (magD n k))=v:=h';subst h';refine⟨_,?_,.int _ _⟩;unfold Instr.loadAt Instr.sureAddr;rw[Sem.run_bind,Sem.run_pure,Result.andThen_ok];unfold loadVar;rw[Sem.run_bind,dU hagg];simp only[Result.andThen_ok,Bool.false_eq_true,if_false,run_load,cW hT,hm.dig hk]
 |_=>exact absurd h.symm hv
theorem aJ(id:Pth)(o:AObj):(H.set id o).m.get .dead id=o:=aL _ _ _ _
theorem af{id id':Pth}(h:id≠id')(o:AObj):(H.set id o).m.get .dead id'=H.m.get .dead id':=aG _ _ h _
theorem bZ(o:AObj):(H.add o).m.get .dead H.next=o:=aL _ _ _ _
theorem aB{id':Pth}(h:H.next≠id')(o:AObj):(H.add o).m.get .dead id'=H.m.get .dead id':=aG _ _ h _
theorem HR.set(hr:HR P ρ ω H w){id:Pth}{i:BI}{o:AObj}{w':World}(hi:ρ id=some i)(hown:owned (H.m.get .dead id)=true)(hos:w'.os=w.os)(htape:w'.tape=w.tape)(hout:w'.output=w.output)(hsize:w'.heap.size=w.heap.size)(hother:∀b,b≠i.blk->w'.heap[b]?=w.heap[b]?)(hobj:ObjOk P ρ ω w' id o):Step P ρ ω H w ρ (H.set id o) w' where
 sub:=.refl _
 hr:={
  ok:=λid'=>by
   by_cases he:id=id'
   .subst he;rw[aJ];exact hobj
   .rw[af he];by_cases hlv:live (H.m.get .dead id')=true
    .exact ObjOk.mono (.refl _) (λi' hi'=>hother _ (Ne.symm (hr.inj id id' i i' hown hlv he hi hi'))) (hr.ok id')
    .exact(hr.ok _).idle hlv (.refl _)
  inj:=λa b ia ib hoa hlb hab ha hb=>by
   have h1:owned (H.m.get .dead a)=true:=by
    by_cases he:id=a
    .subst he;exact hown
    .rw[af he]at hoa;exact hoa
   have h2:live (H.m.get .dead b)=true:=by
    by_cases he:id=b
    .subst he;exact aj hown
    .rw[af he]at hlb;exact hlb
   exact hr.inj a b ia ib h1 h2 hab ha hb
  fresh:=hr.fresh
  num:=λb c h=>by
   obtain⟨⟨T,hT⟩,h2⟩:=hr.num b c h;refine⟨⟨T,(hother b λe=>h2 id i hown hi e.symm).trans hT⟩,λa ia hoa ha=>h2 a ia ?_ ha⟩;by_cases he:id=a
   .subst he;exact hown
   .rw[af he]at hoa;exact hoa}
 idle:=λq _ h=>by
  by_cases he:id=q
  .subst he;rw[h]at hown;cases hown
  .rw[af he];exact h
 nums:=λ_ _ h=>.inl h
 os:=hos
 tape:=htape
 output:=hout
 size:=by omega
 keep:=λb _ hn=>hother b λe=>hn ⟨id,i,hown,hi,e.symm⟩
 al:=λb _ hi'=>by
  obtain⟨a,ia,ho,ha,rfl⟩:=hi';by_cases he:id=a
  .subst he;exact⟨id,ia,aj hown,ha,rfl⟩
  .rw[af he]at ho;exact⟨a,ia,ho,ha,rfl⟩
 imgo:=λb _ hi'=>by
  obtain⟨a,ia,ho,ha,rfl⟩:=hi';by_cases he:id=a
  .subst he;exact⟨id,ia,hown,ha,rfl⟩
  .rw[af he]at ho;exact⟨a,ia,ho,ha,rfl⟩
 next:=Nat.le_refl _
 dom:=λ_ _ h _=>h
end Go.Ex
namespace Go.Ex
open Go
variable{P:Program}{ρ:Rho}{ω:Nat->Value}{H:AH}{w:World}
def splice(c:Array Value)(o:Nat)(vs:List Value):Array Value:=(c.toList.take o++vs++c.toList.drop (o+vs.length)).toArray
theorem bF{c:Array Value}{o:Nat}{vs:List Value}(h:o+vs.length<=c.size)(q:Nat):(splice c o vs)[q]?=if q<o then c[q]? else if q<o+vs.length then vs[q-o]? else c[q]?:=by
 have hl:o<=c.toList.length:=by simp;omega
 unfold splice;rw[List.getElem?_toArray,List.append_assoc];by_cases h1:q<o
 .rw[if_pos h1,List.getElem?_append_left (by simp;omega),List.getElem?_take,if_pos h1];simp
 .rw[if_neg h1,List.getElem?_append_right (by simp;omega)];have e1:(c.toList.take o).length=o:=by simp;omega
  rw[e1];by_cases h2:q<o+vs.length
  .rw[if_pos h2,List.getElem?_append_left (by omega)]
  .rw[if_neg h2,List.getElem?_append_right (by omega),List.getElem?_drop];rw[show o+vs.length+(q-o-vs.length)=q by omega];simp
theorem eT{c:Array Value}{o:Nat}{vs:List Value}(h:o+vs.length<=c.size):(splice c o vs).size=c.size:=by unfold splice;simp;omega
theorem setRow_size(w:World)(g:Nat)(cs:Array Value):(w.setRow g cs).heap.size=w.heap.size:=by simp[World.setRow]
theorem ArrOk.put{c:Array Value}{i:BI}{esz n:Nat}{d:List AVal}{els:T8 (List AVal)}(ha:ArrOk ρ ω c i esz n d els){j:Nat}(hj:j<n){cs:List AVal}{us:List Value}(hcs:All2 (VR ρ ω) cs us)(hlen:us.length=esz)(hone:∀u∈us,u.oneCell'=true)(hpos:0<esz){c':Array Value}(hsz:c'.size=c.size)(hsame:∀q,¬(i.base+j*esz<=q/\q<i.base+j*esz+esz)->c'[q]?=c[q]?)(hnew:∀k u,us[k]?=some u->c'[i.base+j*esz+k]?=some u):ArrOk ρ ω c' i esz n d (els.put [] cs (key j)) where
 lim:=ha.lim
 size:=by rw[hsz];exact ha.size
 els:=λm hm=>by
  by_cases he:m=j
  .subst he;rw[jD,bE (by intro e;subst e;have:=hcs.length;simp at this;omega)];exact⟨us,hcs,hlen,hone,hnew⟩
  .rw[dT he];obtain⟨vs,h1,h2,h3,h4⟩:=ha.els m hm;refine⟨vs,h1,h2,h3,λk v hk=>?_⟩;have hk':k<esz:=by have:=(List.getElem?_eq_some_iff.1 hk).1;omega
   rw[hsame _ ?_]
   .exact h4 k v hk
   .intro⟨x1,x2⟩;rcases Nat.lt_or_gt_of_ne he with hlt|hgt
    .have:(m+1)*esz<=j*esz:=Nat.mul_le_mul_right _ hlt;rw[Nat.add_mul]at this;omega
    .have:(j+1)*esz<=m*esz:=Nat.mul_le_mul_right _ hgt;rw[Nat.add_mul]at this;omega
theorem sQ(hω:∀i,(ω i).oneCell'=true)(hr:HR P ρ ω H w){t:TypeId}{sz:Nat}(hsz:tSize P t=some sz){x u v:AVal}{x' u':Value}(hx:VR ρ ω x x')(hu:VR ρ ω u u'){H':AH}(h:storeV H sz x u=.ok v H'):v=undefV/\∃w',(Instr.storeAt t x' u').run P w=.ok () w'/\Step P ρ ω H w ρ H' w':=by
 cases hx with
 |ptr id off i hi=>
  simp only[storeV]at h;cases h0:(Nat.blt 0 sz&&lenIs u.cells sz)with
  |false=>rw[h0]at h;cases h
  |true=>
   rw[h0]at h;simp only[cond]at h;rw[Bool.and_eq_true]at h0;obtain⟨hpos,hlen⟩:=h0;have hpos:0<sz:=Nat.le_of_ble_eq_true hpos;have hlen:=cV hlen;have hne:u.cells≠[]:=by intro e;rw[e]at hlen;simp at hlen;omega
   obtain⟨hcs,hone⟩:=eN hω hu hne;unfold storeAt at h;cases ho:H.m.get .dead id with
   |arr esz n d els=>
    rw[ho]at h;simp only at h;have hok:=hr.ok id;rw[ho]at hok;obtain⟨i',c,T,hi',hc,ha⟩:=hok;rw[hi]at hi';cases hi';cases hj:Nat.blt (Nat.div off esz) n with
    |false=>rw[hj]at h;cases h
    |true=>
     rw[hj]at h;simp only[cond]at h;have hlt:off/esz<n:=by have:Nat.ble (Nat.div off esz+1) n=true:=hj;exact Nat.le_of_ble_eq_true this
     cases hov:overAt (Nat.mod off esz) u.cells (elem (Nat.div off esz) d els)with
     |none=>rw[hov]at h;cases h
     |some cs=>
      rw[hov]at h;simp only[R.ok.injEq]at h;obtain⟨hv,rfl⟩:=h;refine⟨hv.symm,?_⟩;obtain⟨vs,h1,h2,h3,h4⟩:=ha.els _ hlt;obtain⟨e1,e2⟩:=mw hov;have elen:=h1.length;have hdm:off/esz*esz+off%esz=off:=by rw[Nat.mul_comm];exact Nat.div_add_mod off esz
      have e3:Nat.mod off esz=off%esz:=rfl;have e4:Nat.div off esz=off/esz:=rfl;rw[e3,e4]at e1 e2;have hvl:u'.cells.toList.length=sz:=by rw[<-hcs.length];exact hlen
      have hin:off%esz+sz<=esz:=by omega
      have hfit:i.base+off+0+u'.cells.toList.length<=c.size:=by have hmul:(off/esz+1)*esz<=n*esz:=Nat.mul_le_mul_right _ hlt;rw[Nat.add_mul]at hmul;have:=ha.lim;have:=ha.size;omega
      have hrun:=run_storeCells_at (P:=P) i.blk (i.base+off) T u'.cells.toList 0 c w hc hfit hone;simp only[Nat.add_zero]at hfit hrun;refine⟨w.setRow i.blk (splice c (i.base+off) u'.cells.toList),?_,?_⟩
      .unfold Instr.storeAt Instr.sureAddr;rw[Sem.run_bind,Sem.run_pure,Result.andThen_ok];unfold storeVar;rw[Sem.run_bind,bs hsz,Result.andThen_ok];rw[if_neg (by rw[<-hvl];simp)];exact hrun
      .have hrow:(w.setRow i.blk (splice c (i.base+off) u'.cells.toList)).heap[i.blk]?=some (.cells (splice c (i.base+off) u'.cells.toList) T (0,0)):=setRow_heap w i.blk c _ T (0,0) hc;refine hr.set (w':=w.setRow i.blk (splice c (i.base+off) u'.cells.toList)) hi (by rw[ho];rfl) rfl rfl rfl (setRow_size _ _ _) (λb hb=>setRow_other w i.blk b _ hb) ?_;refine⟨i,_,T,hi,hrow,?_⟩;have hesz:0<esz:=by omega
       have hnewcs:All2 (VR ρ ω) cs (vs.take (off%esz)++u'.cells.toList++vs.drop (off%esz+u.cells.length)):=by rw[e1];exact((h1.take _).append hcs).append (h1.drop _)
       refine ha.put hlt hnewcs ?_ ?_ hesz (eT hfit) ?_ ?_
       .simp only[List.length_append,List.length_take,List.length_drop,hvl,hlen];omega
       .intro x hx;simp only[List.mem_append]at hx;rcases hx with(hx|hx)|hx
        .exact h3 x (List.mem_of_mem_take hx)
        .exact hone x hx
        .exact h3 x (List.mem_of_mem_drop hx)
       .intro q hq;rw[bF hfit];by_cases q1:q<i.base+off
        .rw[if_pos q1]
        .rw[if_neg q1,if_neg (by rw[hvl];omega)]
       .intro k x hk;rw[bF hfit,hvl];rw[List.append_assoc]at hk;have hofs:i.base+off/esz*esz+k=i.base+off+k-off%esz:=by omega
        by_cases k1:k<off%esz
        .rw[if_pos (by omega)];rw[List.getElem?_append_left (by simp;omega),List.getElem?_take,if_pos k1]at hk;exact h4 k x hk
        .rw[if_neg (by omega)];have e5:(vs.take (off%esz)).length=off%esz:=by simp;omega
         rw[List.getElem?_append_right (by omega),e5]at hk;by_cases k2:k<off%esz+sz
         .rw[if_pos (by omega)];rw[List.getElem?_append_left (by omega)]at hk;rw[<-hk];congr 1;omega
         .rw[if_neg (by omega)];rw[List.getElem?_append_right (by omega),List.getElem?_drop,hvl,hlen]at hk;rw[show off%esz+sz+(k-off%esz-sz)=k by omega]at hk;exact h4 k x hk
   |ro _ _ _ _=>rw[ho]at h;cases h
   |dead=>rw[ho]at h;cases h
   |lp _ _ _ _ _=>rw[ho]at h;cases h
   |mp _=>rw[ho]at h;cases h
   |fwd _ _ _ _ _=>rw[ho]at h;cases h
 |_=>cases h
theorem mB(hr:HR P ρ ω H w){id:Pth}{i:BI}(h:ρ id=some i):H.next≠id:=by intro e;have:=hr.fresh id i h;rw[e]at this;omega
def ext(ρ:Rho)(id:Pth)(i:BI):Rho:=⟨λq=>if q=id then some i else ρ q,ρ.num⟩
theorem ad(ρ:Rho)(id:Pth)(i:BI):ext ρ id i id=some i:=if_pos rfl
theorem ak(ρ:Rho){id q:Pth}(i:BI)(h:q≠id):ext ρ id i q=ρ q:=if_neg h
theorem bh(hr:HR P ρ ω H w)(i:BI):Sub ρ (ext ρ H.next i):=⟨λid j h=>by rw[ak _ _ (Ne.symm (mB hr h))];exact h,λ_ _ h=>h⟩
theorem mC{id:Pth}{o:AObj}(hok:ObjOk P ρ ω w id o)(hn:ρ id=none):o=.dead:=by
 cases o with
 |dead=>rfl
 |_=>
  first
   |(obtain⟨i,hi,_⟩:=hok;rw[hn]at hi;cases hi)
   |(obtain⟨i,_,hi,_⟩:=hok;rw[hn]at hi;cases hi)
   |(obtain⟨i,_,_,hi,_⟩:=hok;rw[hn]at hi;cases hi)
   |(obtain⟨i,_,_,_,hi,_⟩:=hok;rw[hn]at hi;cases hi)
theorem HR.add(hr:HR P ρ ω H w){o:AObj}{ob:Obj}{i:BI}(hb:i.blk=w.heap.size)(hobj:ObjOk P (ext ρ H.next i) ω (w.alloc ob) H.next o):Step P ρ ω H w (ext ρ H.next i) (H.add o) (w.alloc ob) where
 sub:=bh hr i
 hr:={
  ok:=λid=>by
   by_cases he:H.next=id
   .subst he;rw[bZ];exact hobj
   .rw[aB he];by_cases hlv:live (H.m.get .dead id)=true
    .obtain⟨j,hj,hlt⟩:=(hr.ok id).lt hlv;refine ObjOk.mono (bh hr i) (λi' hi'=>?_) (hr.ok id);rw[hj]at hi';cases hi';show(w.heap.push ob)[j.blk]?=_;rw[Array.getElem?_push,if_neg (by omega)]
    .exact(hr.ok _).idle hlv (bh hr i)
  inj:=λa b ia ib hoa hlb hab ha hb'=>by
   by_cases e1:H.next=a
   .subst e1;rw[aB hab]at hlb;rw[ad]at ha;cases ha;rw[ak _ _ (Ne.symm hab)]at hb';obtain⟨j,hj,hlt⟩:=(hr.ok b).lt hlb;rw[hj]at hb';cases hb';omega
   .rw[aB e1]at hoa;rw[ak _ _ (Ne.symm e1)]at ha;by_cases e2:H.next=b
    .subst e2;rw[ad]at hb';cases hb';obtain⟨j,hj,hlt⟩:=(hr.ok a).lt (aj hoa);rw[hj]at ha;cases ha;omega
    .rw[aB e2]at hlb;rw[ak _ _ (Ne.symm e2)]at hb';exact hr.inj a b ia ib hoa hlb hab ha hb'
  fresh:=λid j hj=>by
   have hn:(H.add o).next.toNat=H.next.toNat+1:=Pth.ab _
   rw[hn];by_cases e:id=H.next
   .subst e;omega
   .rw[ak _ _ e]at hj;have:=hr.fresh id j hj;omega
  num:=λb c h=>by
   have h:ρ.num b=some c:=h;obtain⟨⟨T,hT⟩,h2⟩:=hr.num b c h;have hlt:=hr.dS h;refine⟨⟨T,?_⟩,λa ia hoa ha=>?_⟩
   .show(w.heap.push ob)[b]?=_;rw[Array.getElem?_push,if_neg (by omega)];exact hT
   .by_cases e1:H.next=a
    .subst e1;rw[ad]at ha;cases ha;omega
    .rw[aB e1]at hoa;rw[ak _ _ (Ne.symm e1)]at ha
     exact h2 a ia hoa ha}
 idle:=λq hl h=>by rw[aB (λe=>by subst e;omega)];exact h
 nums:=λ_ _ h=>.inl h
 os:=rfl
 tape:=rfl
 output:=rfl
 size:=by simp
 keep:=λb hb' _=>by show(w.heap.push ob)[b]?=_;rw[Array.getElem?_push,if_neg (by omega)]
 al:=λb hb' hi'=>by
  obtain⟨a,ia,ho,ha,rfl⟩:=hi';by_cases e:H.next=a
  .subst e;rw[ad]at ha;cases ha;omega
  .rw[aB e]at ho;rw[ak _ _ (Ne.symm e)]at ha;exact⟨a,ia,ho,ha,rfl⟩
 imgo:=λb hb' hi'=>by
  obtain⟨a,ia,ho,ha,rfl⟩:=hi';by_cases e:H.next=a
  .subst e;rw[ad]at ha;cases ha;omega
  .rw[aB e]at ho;rw[ak _ _ (Ne.symm e)]at ha;exact⟨a,ia,ho,ha,rfl⟩
 next:=by have:(H.add o).next.toNat=H.next.toNat+1:=Pth.ab _;omega
 dom:=λq j hj hl=>by rw[ak _ _ (λe=>by subst e;omega)]at hj;exact hj
end Go.Ex
namespace Go.Ex
open Go
variable{P:Program}{ρ:Rho}{ω:Nat->Value}{H:AH}{w:World}
def GlobOk(P:Program)(ρ:Rho):Prop:=∀g,g<P.globals.size->∃i,ρ (key g)=some i/\i.blk=g/\i.base=0
structure CtxOk(ρ:Rho)(ω:Nat->Value)(G:Ctx)(L:List AVal)(e:T8 AVal)(tm:Array Value):Prop where
 len:L.length=G.m
 lev:∀t n,lookG G.g t=some (.lev n)->n<G.m
 ok:∀t s,lookG G.g t=some s->VR ρ ω ((s.opd G.m).ev L e) (tm.getD t undef)
theorem jH{v:Value}{x:AVal}(h:scalarOf v=some x):VR ρ ω x v/\v.oneCell'=true:=by
 unfold scalarOf at h
 split at h<;>first
  |(simp only[Option.some.injEq]at h;subst h;exact⟨by constructor,rfl⟩)
  |cases h
theorem mD{l:List Value}{r:List AVal}(h:scalars l=some r):All2 (VR ρ ω) r l/\∀v∈l,v.oneCell'=true:=by
 induction l generalizing r with
 |nil=>simp only[scalars,Option.some.injEq]at h;subst h;exact⟨.nil,by simp⟩
 |cons v l ih=>
  simp only[scalars,Option.bind_eq_some_iff]at h;obtain⟨a,ha,q,hq,he⟩:=h;simp only[Option.some.injEq]at he;subst he;obtain⟨h1,h2⟩:=jH (ρ:=ρ) (ω:=ω) ha;obtain⟨h3,h4⟩:=ih hq;refine⟨.cons h1 h3,λu hu=>?_⟩;rcases List.mem_cons.1 hu with rfl|hu
  .exact h2
  .exact h4 u hu
theorem dV{v:Value}{x:AVal}(h:ofValue v=some x):VR ρ ω x v:=by
 unfold ofValue at h;split at h
 .rename_i cs;simp only[Option.map_eq_some_iff]at h;obtain⟨l,hl,rfl⟩:=h;obtain⟨h1,h2⟩:=mD (ρ:=ρ) (ω:=ω) hl;have:=VR.agg (ρ:=ρ) (ω:=ω) l cs.toList h1 h2;simpa using this
 .exact(jH h).1
variable{N:Nat}{S:List (Nat×Pth)}{G:Ctx}{L:List AVal}{e:T8 AVal}{a:Act}
theorem bG(hg:GlobOk P ρ)(he:EnvOk ρ ω S e a.tmps)(hc:CtxOk ρ ω G L e a.tmps){x:Operand}{c:COpd}(h:cOpd P N S G x=some c):VR ρ ω (c.ev L e) (a.eval x):=by
 cases x with
 |tmp t=>
  simp only[cOpd]at h;cases hb:Nat.blt t N with
  |false=>rw[hb]at h;cases h
  |true=>
   rw[hb]at h;simp only[cond]at h;cases hl:lookG G.g t with
   |some s=>rw[hl]at h;simp only[Option.some.injEq]at h;subst h;exact hc.ok t s hl
   |none=>rw[hl]at h;simp only[Option.map_eq_some_iff]at h;obtain⟨p,hp,rfl⟩:=h;exact he t p hp
 |const v=>simp only[cOpd,Option.map_eq_some_iff]at h;obtain⟨y,hy,rfl⟩:=h;exact dV hy
 |global g=>
  simp only[cOpd]at h;cases hb:Nat.blt g P.globals.size with
  |false=>rw[hb]at h;cases h
  |true=>rw[hb]at h;simp only[cond,Option.some.injEq]at h;subst h;obtain⟨i,hi,h1,h2⟩:=hg g (Nat.le_of_ble_eq_true hb);have:=VR.ptr (ρ:=ρ) (ω:=ω) (key g) 0 i hi;rw[h1,h2]at this;exact this
 |func f=>simp only[cOpd,Option.some.injEq]at h;subst h;exact .fnv f [] [] .nil
theorem eU(hg:GlobOk P ρ)(he:EnvOk ρ ω S e a.tmps)(hc:CtxOk ρ ω G L e a.tmps){xs:List Operand}{cs:List COpd}(h:cOpds P N S G xs=some cs):All2 (VR ρ ω) (evs L e cs) (xs.map a.eval):=by
 induction xs generalizing cs with
 |nil=>simp only[cOpds,Option.some.injEq]at h;subst h;exact .nil
 |cons x xs ih=>simp only[cOpds,Option.bind_eq_some_iff]at h;obtain⟨c,h1,r,h2,h3⟩:=h;simp only[Option.some.injEq]at h3;subst h3;exact .cons (bG hg he hc h1) (ih h2)
theorem dW(x y:Int):intLt x y=decide (x<y):=by
 cases x with
 |ofNat m=>cases y with
  |ofNat n=>show Nat.ble (m+1) n=_;rw[Bool.eq_iff_iff,Nat.ble_eq,decide_eq_true_iff];simp only[Int.ofNat_eq_natCast];omega
  |negSucc n=>show false=_;rw[Bool.eq_iff_iff,decide_eq_true_iff];simp only[Int.ofNat_eq_natCast];constructor<;>intro h<;>first|cases h|omega
 |negSucc m=>cases y with
  |ofNat n=>exact(decide_eq_true (show Int.negSucc m<Int.ofNat n by simp only[Int.ofNat_eq_natCast];omega)).symm
  |negSucc n=>show Nat.ble (n+1) m=_;rw[Bool.eq_iff_iff,Nat.ble_eq,decide_eq_true_iff];omega
theorem sR(n:Int):IntKind.u64.wrap n=n%18446744073709551616:=by simp[IntKind.wrap,IntKind.bits,IntKind.signed]
theorem sS(n:Int):IntKind.u32.wrap n=n%4294967296:=by simp[IntKind.wrap,IntKind.bits,IntKind.signed]
theorem mE{α:Type}{c:Bool}{x y z:α}(h1:c=true->x=z)(h2:y=z):(bif c then x else y)=z:=by
 cases c
 .exact h2
 .exact h1 rfl
theorem dw(k:IntKind)(n:Int):wrapN k n=k.wrap n:=by
 unfold wrapN;split
 .rename_i m;refine mE (λhb=>?_) rfl;have hlt:m<two63:=Nat.le_of_ble_eq_true hb;unfold two63 at hlt;exact(IntWalk.i64_in _ (by simp only[Int.ofNat_eq_natCast];omega)).symm
 .rename_i m;refine mE (λhb=>?_) (Eq.refl _);have hlt:m<two63:=Nat.le_of_ble_eq_true hb;unfold two63 at hlt;exact(IntWalk.i64_in _ (by omega)).symm
 .rename_i m;rw[sR];exact(Int.natCast_emod m 18446744073709551616)
 .rename_i m;rw[sS];exact(Int.natCast_emod m 4294967296)
 .rfl
theorem mF{y:Int}(h:isZero y=false):y≠0:=by intro e;subst e;cases h
theorem eV{op:BinOp}{k:IntKind}{x y:Int}{v:AVal}(h:intBits op k x y=v)(hv:v≠.bad):∃v',(Op.intBits op k x y).run P w=.ok v' w/\VR ρ ω v v':=by
 unfold intBits at h
 cases op<;>simp only at h<;>first
  |exact absurd h.symm hv
  |(subst h;exact⟨_,rfl,.int _ _⟩)
theorem sT{t:TypeId}{op:BinOp}{k:IntKind}{x y:Int}{v:AVal}(hs:isShift op=false)(h:intBin op k x y=v)(hv:v≠.bad):∃v',(binOp op t (.int k x) (.int k y)).run P w=.ok v' w/\VR ρ ω v v':=by
 unfold intBin at h;cases op<;>simp only at h
 case add=>subst h;exact⟨.int k (k.wrap (x+y)),by simp[binOp,Op.intArith],by rw[dw];exact .int _ _⟩
 case sub=>subst h;exact⟨.int k (k.wrap (x-y)),by simp[binOp,Op.intArith],by rw[dw];exact .int _ _⟩
 case mul=>subst h;exact⟨.int k (k.wrap (x*y)),by simp[binOp,Op.intArith],by rw[dw];exact .int _ _⟩
 case quo=>
  cases hz:isZero y with
  |true=>rw[hz]at h;exact absurd h.symm hv
  |false=>rw[hz]at h;have:=mF hz;simp only[cond]at h;subst h;exact⟨.int k (k.wrap (x.tdiv y)),by simp[binOp,Op.intDiv,this],by rw[dw];exact .int _ _⟩
 case rem=>
  cases hz:isZero y with
  |true=>rw[hz]at h;exact absurd h.symm hv
  |false=>rw[hz]at h;have:=mF hz;simp only[cond]at h;subst h;exact⟨.int k (x.tmod y),by simp[binOp,Op.intDiv,this],.int _ _⟩
 case eql=>subst h;exact⟨.bool (x==y),by simp[binOp,Op.intCmp],by rw[bY];exact .bool _⟩
 case neq=>subst h;exact⟨.bool (x !=y),by simp[binOp,Op.intCmp],by rw[bY];exact .bool _⟩
 case lss=>subst h;exact⟨.bool (x<y),by simp[binOp,Op.intCmp],by rw[dW];exact .bool _⟩
 case leq=>subst h;exact⟨.bool (x<=y),by simp[binOp,Op.intCmp],by rw[dW,show(!decide (y<x))=decide (x<=y) by rw[Bool.eq_iff_iff];simp];exact .bool _⟩
 case gtr=>subst h;exact⟨.bool (x>y),by simp[binOp,Op.intCmp],by rw[dW];exact .bool _⟩
 case geq=>subst h;exact⟨.bool (x>=y),by simp[binOp,Op.intCmp],by rw[dW,show(!decide (x<y))=decide (x>=y) by rw[Bool.eq_iff_iff];simp];exact .bool _⟩
 case and=>obtain⟨v',h1,h2⟩:=eV (P:=P) (w:=w) (ρ:=ρ) (ω:=ω) h hv;exact⟨v',by simpa [binOp]using h1,h2⟩
 case or=>obtain⟨v',h1,h2⟩:=eV (P:=P) (w:=w) (ρ:=ρ) (ω:=ω) h hv;exact⟨v',by simpa [binOp]using h1,h2⟩
 case xor=>obtain⟨v',h1,h2⟩:=eV (P:=P) (w:=w) (ρ:=ρ) (ω:=ω) h hv;exact⟨v',by simpa [binOp]using h1,h2⟩
 case andNot=>obtain⟨v',h1,h2⟩:=eV (P:=P) (w:=w) (ρ:=ρ) (ω:=ω) h hv;exact⟨v',by simpa [binOp]using h1,h2⟩
 case shl=>cases hs
 case shr=>cases hs
theorem sU{t:TypeId}{op:BinOp}{k l:IntKind}{x y:Int}{v:AVal}(hs:isShift op=true)(h:intShift op k x y=v)(hv:v≠.bad):∃v',(binOp op t (.int k x) (.int l y)).run P w=.ok v' w/\VR ρ ω v v':=by
 unfold intShift at h;cases y with
 |negSucc m=>exact absurd h.symm hv
 |ofNat m=>
  simp only at h;have hn:¬(Int.ofNat m<0):=by simp only[Int.ofNat_eq_natCast];omega
  cases op<;>simp only at h<;>first
   |(cases hs;done)
   |(
    subst h;refine⟨_,by simp only[binOp,Op.shift,if_neg hn];rfl,?_⟩
    first
     |(rw[dw];exact .int _ _)
     |exact .int _ _)
end Go.Ex
namespace Go.Ex
open Go
variable{P:Program}{ρ:Rho}{ω:Nat->Value}{H:AH}{w:World}
theorem sV(op:BinOp):isShift op=true\/isShift op=false:=by cases isShift op<;>simp
theorem mG{op:BinOp}{t:TypeId}{x y:Operand}{k l:IntKind}{m n:Int}:(eqGuard op t x y (.int k m) (.int l n)).run P w=.ok () w:=by unfold eqGuard;split<;>rfl
theorem sW{op:BinOp}{t:TypeId}{xo yo:Operand}{x y v:AVal}{x' y':Value}(hx:VR ρ ω x x')(hy:VR ρ ω y y')(h:binV op x y=v)(hv:v≠.bad):∃v',(do eqGuard op t xo yo x' y';binOp op t x' y':Sem Value).run P w=.ok v' w/\VR ρ ω v v':=by
 cases hx with
 |int k m=>cases hy with
  |int l n=>
   simp only[binV]at h;rcases sV op with hs|hs
   .rw[hs]at h;obtain⟨v',h1,h2⟩:=sU (P:=P) (w:=w) (ρ:=ρ) (ω:=ω) (t:=t) (l:=l) hs h hv;exact⟨v',by rw[Sem.run_bind,mG,Result.andThen_ok];exact h1,h2⟩
   .rw[hs]at h;cases hk:kindEq k l with
    |false=>rw[hk]at h;exact absurd h.symm hv
    |true=>rw[hk]at h;obtain rfl:=gj.1 hk;obtain⟨v',h1,h2⟩:=sT (P:=P) (w:=w) (ρ:=ρ) (ω:=ω) (t:=t) hs h hv;exact⟨v',by rw[Sem.run_bind,mG,Result.andThen_ok];exact h1,h2⟩
  |_=>exact absurd h.symm hv
 |_=>exact absurd h.symm hv
theorem sX{op:BinOp}{b:Option Bool}{v:AVal}(h:ofEq op b=v)(hv:v≠.bad):∃c,b=some c/\((op=.eql/\v=.bool c)\/(op=.neq/\v=.bool (!c))):=by
 unfold ofEq at h;cases b with
 |none=>exact absurd h.symm hv
 |some c=>cases op<;>first|exact absurd h.symm hv|exact⟨c,rfl,.inl ⟨rfl,h.symm⟩⟩|exact⟨c,rfl,.inr ⟨rfl,h.symm⟩⟩
def clsOk(P:Program)(t:TypeId):Nat->Prop
 |0=>P.underlying t=some .bool
 |1=>∃e,P.underlying t=some (.pointer e)
 |2=>∃e,P.underlying t=some (.slice e)
 |3=>∃a b c,P.underlying t=some (.func a b c)
 |4=>∃a b,P.underlying t=some (.map a b)
 |_=>False
theorem dx{op:BinOp}{t:TypeId}{xo yo:Operand}{x' y':Value}{c:Bool}{v:AVal}(hg:(eqGuard op t xo yo x' y').run P w=.ok () w)(hbe:binOp .eql t x' y'=(do pure (.bool (<-Op.equal t x' y'))))(hbn:binOp .neq t x' y'=(do pure (.bool (!(<-Op.equal t x' y')))))(he:(Op.equal t x' y').run P w=.ok c w)(hop:(op=.eql/\v=.bool c)\/(op=.neq/\v=.bool (!c))):∃v',(do eqGuard op t xo yo x' y';binOp op t x' y':Sem Value).run P w=.ok v' w/\VR ρ ω v v':=by
 rcases hop with⟨rfl,rfl⟩|⟨rfl,rfl⟩
 .exact⟨.bool c,by rw[Sem.run_bind,hg,Result.andThen_ok,hbe,Sem.run_bind,he];rfl,.bool _⟩
 .exact⟨.bool (!c),by rw[Sem.run_bind,hg,Result.andThen_ok,hbn,Sem.run_bind,he];rfl,.bool _⟩
theorem eX{cls:Nat}{op:BinOp}{t:TypeId}{xo yo:Operand}{x y v:AVal}{x' y':Value}(hc:clsOk P t cls)(hx:VR ρ ω x x')(hy:VR ρ ω y y')(h:cmpV cls op x y=v)(hv:v≠.bad):∃v',(do eqGuard op t xo yo x' y';binOp op t x' y':Sem Value).run P w=.ok v' w/\VR ρ ω v v':=by
 obtain⟨c,hb,hop⟩:=sX h hv;unfold eqlV at hb
 have g0:∀{x' y':Value},(∀z,x'≠.agg z)->x'≠.nilIface->(eqGuard op t xo yo x' y').run P w=.ok () w:=by
  intro x' y' h1 h2
  cases x'<;>first
   |exact absurd rfl (h1 _)
   |exact absurd rfl h2
   |(cases op<;>rfl)
 split at hb
 .
  cases hx with
  |bool a=>cases hy with
   |bool b=>simp only[Option.some.injEq]at hb;refine dx (g0 (by simp) (by simp)) rfl rfl (c:=c) ?_ hop;subst hb;unfold Op.equal Op.maxDepth Op.equalIn;rw[Sem.run_bind,run_underlying hc,Result.andThen_ok];simp only[Sem.run_pure,jG]
   |_=>cases hb
  |_=>cases hb
 .obtain⟨e,he⟩:=hc;cases hx with
  |pnil=>cases hy with
   |pnil=>simp only[Option.some.injEq]at hb;refine dx (g0 (by simp) (by simp)) rfl rfl (c:=c) ?_ hop;subst hb;unfold Op.equal Op.maxDepth Op.equalIn;rw[Sem.run_bind,run_underlying he,Result.andThen_ok];rfl
   |ptr id off i hi=>simp only[Option.some.injEq]at hb;refine dx (g0 (by simp) (by simp)) rfl rfl (c:=c) ?_ hop;subst hb;unfold Op.equal Op.maxDepth Op.equalIn;rw[Sem.run_bind,run_underlying he,Result.andThen_ok];rfl
   |_=>cases hb
  |ptr id off i hi=>cases hy with
   |pnil=>simp only[Option.some.injEq]at hb;refine dx (g0 (by simp) (by simp)) rfl rfl (c:=c) ?_ hop;subst hb;unfold Op.equal Op.maxDepth Op.equalIn;rw[Sem.run_bind,run_underlying he,Result.andThen_ok];rfl
   |_=>cases hb
  |_=>cases hb
 .obtain⟨e,he⟩:=hc
  cases hx<;>cases hy<;>first
   |(cases hb;done)
   |(
    simp only[Option.some.injEq]at hb;refine dx (g0 (by simp) (by simp)) rfl rfl (c:=c) ?_ hop;subst hb;unfold Op.equal Op.maxDepth Op.equalIn;rw[Sem.run_bind,run_underlying he,Result.andThen_ok]
    rfl)
 .obtain⟨a1,a2,a3,he⟩:=hc
  cases hx<;>cases hy<;>first
   |(cases hb;done)
   |(
    simp only[Option.some.injEq]at hb;refine dx (g0 (by simp) (by simp)) rfl rfl (c:=c) ?_ hop;subst hb;unfold Op.equal Op.maxDepth Op.equalIn;rw[Sem.run_bind,run_underlying he,Result.andThen_ok]
    rfl)
 .obtain⟨a1,a2,he⟩:=hc
  cases hx<;>cases hy<;>first
   |(cases hb;done)
   |(
    simp only[Option.some.injEq]at hb;refine dx (g0 (by simp) (by simp)) rfl rfl (c:=c) ?_ hop;subst hb;unfold Op.equal Op.maxDepth Op.equalIn;rw[Sem.run_bind,run_underlying he,Result.andThen_ok]
    rfl)
 .cases hb
theorem sY{op:UnOp}{x v:AVal}{x':Value}(hx:VR ρ ω x x')(h:unV op x=v)(hv:v≠.bad):∃v',(Op.unary op x').run P w=.ok v' w/\VR ρ ω v v':=by
 unfold unV at h
 cases hx<;>cases op<;>first
  |exact absurd h.symm hv
  |(
   simp only at h
   first
    |(subst h;exact⟨_,rfl,by first|exact .bool _|(rw[dw];exact .int _ _)⟩)
    |(obtain⟨v',h1,h2⟩:=eV (P:=P) (w:=w) (ρ:=ρ) (ω:=ω) h hv;exact⟨v',by simpa [Op.unary]using h1,h2⟩))
theorem sZ{s d:TypeId}{k:IntKind}{x v:AVal}{x':Value}(hs:∃k',P.underlying s=some (.int k'))(hd:P.underlying d=some (.int k))(hx:VR ρ ω x x')(h:convV k x=v)(hv:v≠.bad):∃v',(convert s d x').run P w=.ok v' w/\VR ρ ω v v':=by
 obtain⟨k',hs⟩:=hs;unfold convV at h;cases hx with
 |int l n=>simp only at h;subst h;refine⟨.int k (k.wrap n),?_,by rw[dw];exact .int _ _⟩;unfold convert;rw[Sem.run_bind,run_underlying hs,Result.andThen_ok,Sem.run_bind,run_underlying hd,Result.andThen_ok];rfl
 |_=>exact absurd h.symm hv
theorem s5{c a b v:AVal}{c' a' b':Value}(hc:VR ρ ω c c')(ha:VR ρ ω a a')(hb:VR ρ ω b b')(h:pickV c a b=v)(hv:v≠.bad):∃v',(do pure (Next.value (if <-asBool c' then a' else b')):Sem Next).run P w=.ok (.value v') w/\VR ρ ω v v':=by
 unfold pickV at h
 cases hc<;>first
  |exact absurd h.symm hv
  |(
   rename_i t;cases t
   .exact⟨b',rfl,by rw[<-h];exact hb⟩
   .exact⟨a',rfl,by rw[<-h];exact ha⟩)
theorem s6{x v:AVal}{x':Value}(hx:VR ρ ω x x')(h:nilcV x=v)(hv:v≠.bad){o:Oper}{xo:Operand}{ev:Operand->Value}(ho:o.op=.nilCheck xo)(hev:ev xo=x'):∃v',(execOp ev o).run P w=.ok (.value v') w/\VR ρ ω v v':=by
 unfold nilcV at h;cases hx with
 |ptr id off i hi=>exact⟨_,by simp only[execOp,ho,hev,Sem.run_pure];rfl,by rw[<-h];exact .ptr id off i hi⟩
 |fnv f caps cs hcs=>exact⟨_,by simp only[execOp,ho,hev,Sem.run_pure];rfl,by rw[<-h];exact .fnv f caps cs hcs⟩
 |_=>exact absurd h.symm hv
theorem s7{s:TypeId}{fi:Nat}{f:Field}(hf:tField P s fi=some f){z:Nat}(hz:tSize P f.type=some z)(hnz:z≠0){x v:AVal}{x':Value}(hx:VR ρ ω x x')(h:faddrV f.offset x=v)(hv:v≠.bad):∃v',(Instr.fieldAt s x' fi).run P w=.ok v' w/\VR ρ ω v v':=by
 unfold faddrV at h;cases hx with
 |ptr id off i hi=>
  subst h;have h2:=VR.ptr (ρ:=ρ) (ω:=ω) id (Nat.add off f.offset) i hi;refine⟨_,?_,h2⟩;unfold tField at hf;cases hu:P.underlying s with
  |none=>rw[hu]at hf;cases hf
  |some d=>
   rw[hu]at hf;cases d with
   |struct fs=>simp only at hf;unfold Instr.fieldAt;rw[Sem.run_bind,run_underlying hu,Result.andThen_ok];simp only[hf,Instr.sureAddr,fieldPlace,Sem.run_bind,Sem.run_pure,Result.andThen_ok,bs hz,if_neg hnz,bO];rw[Nat.add_assoc];rfl
   |_=>cases hf
 |_=>exact absurd h.symm hv
theorem au{j n:Nat}(h:Nat.blt j n=true):j<n:=Nat.le_of_ble_eq_true h
theorem s8{t e:TypeId}{s:Nat}(ht:tElem P t=some e)(hs:tSize P e=some s){x i v:AVal}{x' i':Value}(hx:VR ρ ω x x')(hi:VR ρ ω i i')(h:iaddrV s x i=v)(hv:v≠.bad):∃v',(Instr.indexAt t x' i').run P w=.ok v' w/\VR ρ ω v v':=by
 have hu:P.underlying t=some (.slice e):=by
  unfold tElem at ht;split at ht
  .rename_i e' he;simp only[Option.some.injEq]at ht;subst ht;exact he
  .cases ht
 unfold iaddrV at h;cases hi with
 |int k n=>cases n with
  |negSucc n=>exact absurd h.symm hv
  |ofNat j=>
   simp only at h;have run:∀(a:Addr) (len cap:Nat),j<len->(Instr.indexAt t (.slice (some a) len cap) (.int k (Int.ofNat j))).run P w=.ok (.pointer (some (a.add (j*s)))) w:=by intro a len cap hlt;unfold Instr.indexAt;simp only[asIntOf,Sem.run_bind,Sem.run_pure,Result.andThen_ok,run_underlying hu,Bool.and_false,Sem.run_ite];rw[if_pos (by simp only[Int.ofNat_eq_natCast];omega)];simp only[bs hs,Result.andThen_ok,Int.ofNat_eq_natCast,Int.toNat_natCast]
   cases hx with
   |sl id off len cap q hq=>
    simp only at h;cases hb:Nat.blt j len with
    |false=>rw[hb]at h;exact absurd h.symm hv
    |true=>rw[hb]at h;simp only[cond]at h;subst h;refine⟨_,run _ len cap (au hb),?_⟩;rw[bO,Nat.add_assoc];exact .ptr id (off+j*s) q hq
   |sg id off len esz cap q hq hl hr=>
    simp only at h;cases hb:Nat.blt j len with
    |false=>rw[hb]at h;exact absurd h.symm hv
    |true=>rw[hb]at h;simp only[cond]at h;subst h;refine⟨_,run _ len cap (au hb),?_⟩;rw[bO,Nat.add_assoc];exact .ptr id (off+j*s) q hq
   |mag n b o len cap c hc hm=>
    simp only at h;cases he:Nat.beq s 1 with
    |false=>rw[he]at h;exact absurd h.symm hv
    |true=>
     have:=Nat.eq_of_beq_eq_true he;subst this;cases hb:Nat.blt j (magN n)with
     |false=>rw[hb]at h;exact absurd h.symm hv
     |true=>
      rw[hb]at h;simp only[Nat.beq,Bool.and_self,cond]at h;subst h;have hlt:j<len:=by rw[hm.lenN];exact au hb
      refine⟨_,run _ len cap hlt,?_⟩;rw[bO,Nat.mul_one];exact .mptr n j b o len cap c hc hm hlt
   |_=>exact absurd h.symm hv
 |_=>exact absurd h.symm hv
theorem jI{t:TypeId}{n:Nat}{e:TypeId}(ht:tArr P t=some (n,e)):P.underlying t=some (.array n e):=by
 unfold tArr at ht;split at ht
 .rename_i n' e' he;simp only[Option.some.injEq,Prod.mk.injEq]at ht;obtain⟨rfl,rfl⟩:=ht;exact he
 .cases ht
theorem s9{t e:TypeId}{n s:Nat}(ht:tArr P t=some (n,e))(hs:tSize P e=some s){x i v:AVal}{x' i':Value}(hx:VR ρ ω x x')(hi:VR ρ ω i i')(h:iaddrAV n s x i=v)(hv:v≠.bad):∃v',(Instr.indexAt t x' i').run P w=.ok v' w/\VR ρ ω v v':=by
 have hu:=jI ht;unfold iaddrAV at h;cases hi with
 |int k m=>cases m with
  |negSucc m=>exact absurd h.symm hv
  |ofNat j=>
   simp only at h;cases hx with
   |ptr id off q hq=>
    simp only at h;cases hb:Nat.blt j n with
    |false=>rw[hb]at h;exact absurd h.symm hv
    |true=>rw[hb]at h;simp only[cond]at h;subst h;refine⟨.pointer (some ⟨q.blk,q.base+(off+j*s),none⟩),?_,.ptr id (off+j*s) q hq⟩;unfold Instr.indexAt;simp only[asIntOf,Sem.run_bind,Sem.run_pure,Result.andThen_ok,run_underlying hu,Instr.sureAddr,Sem.run_ite];rw[if_pos (by have:=au hb;simp only[Int.ofNat_eq_natCast];omega)];simp only[bs hs,Result.andThen_ok,Int.ofNat_eq_natCast,Int.toNat_natCast,bO,Nat.add_assoc]
   |_=>exact absurd h.symm hv
 |_=>exact absurd h.symm hv
theorem mH{t:TypeId}{agg:Bool}{sz:Nat}(hagg:tAgg P t=some agg)(hsz:tSize P t=some sz){l:List AVal}{vs:List Value}(hl:All2 (VR ρ ω) l vs)(hone:∀v∈vs,v.oneCell'=true){off:Nat}{v:AVal}(h:single agg (takeN sz (dropN off l))=v)(hv:v≠.bad):∃v',(part t vs.toArray off).run P w=.ok v' w/\VR ρ ω v v':=by
 obtain⟨c,hc,hr⟩:=jE h hv;rw[mq]at hc;obtain⟨e1,e2⟩:=mr hc;have h2:All2 (VR ρ ω) c ((vs.drop off).take sz):=by rw[e1];exact(hl.drop _).take _
 rcases hr with⟨rfl,rfl⟩|⟨rfl,rfl⟩
 .refine⟨.agg ((vs.drop off).take sz).toArray,?_,.agg _ _ h2 λu hu=>hone u (List.mem_of_mem_drop (List.mem_of_mem_take hu))⟩;unfold part;rw[Sem.run_bind,dU hagg,Result.andThen_ok,if_pos rfl,Sem.run_bind,bs hsz,Result.andThen_ok,Sem.run_pure];congr 2;apply Array.ext';simp
 .obtain⟨u,hu,hvu⟩:=h2.get 0 v rfl;refine⟨u,?_,hvu⟩
  have hu':vs[off]?=some u:=by
   rw[List.getElem?_take]at hu;split at hu
   .rw[List.getElem?_drop]at hu;simpa using hu
   .cases hu
  unfold part;rw[Sem.run_bind,dU hagg,Result.andThen_ok];simp only[Bool.false_eq_true,if_false,List.getElem?_toArray,hu'];rfl
theorem s_{s:TypeId}{fi:Nat}{f:Field}(hf:tField P s fi=some f){agg:Bool}{sz:Nat}(hagg:tAgg P f.type=some agg)(hsz:tSize P f.type=some sz){x v:AVal}{x':Value}(hx:VR ρ ω x x')(h:fldV agg f.offset sz x=v)(hv:v≠.bad):∃v',(Instr.field s x' fi).run P w=.ok v' w/\VR ρ ω v v':=by
 unfold fldV at h;cases hx with
 |agg l vs hl hc=>
  obtain⟨v',h1,h2⟩:=mH (w:=w) hagg hsz hl hc h hv;refine⟨v',?_,h2⟩;unfold tField at hf;cases hu:P.underlying s with
  |none=>rw[hu]at hf;cases hf
  |some d=>
   rw[hu]at hf;cases d with
   |struct fs=>simp only at hf;unfold Instr.field;rw[Sem.run_bind,run_underlying hu,Result.andThen_ok];simp only[hf,asAgg,Sem.run_bind,Sem.run_pure,Result.andThen_ok];exact h1
   |_=>cases hf
 |_=>exact absurd h.symm hv
theorem tc{t e:TypeId}{n s:Nat}{agg:Bool}(ht:tArr P t=some (n,e))(hs:tSize P e=some s)(hagg:tAgg P e=some agg){x i v:AVal}{x' i':Value}(hx:VR ρ ω x x')(hi:VR ρ ω i i')(h:idxAV agg n s x i=v)(hv:v≠.bad):∃v',(Instr.index t x' i').run P w=.ok v' w/\VR ρ ω v v':=by
 have hu:=jI ht;unfold idxAV at h;cases hi with
 |int k m=>cases m with
  |negSucc m=>exact absurd h.symm hv
  |ofNat j=>
   simp only at h;cases hx with
   |agg l vs hl hc=>
    simp only at h;cases hb:Nat.blt j n with
    |false=>rw[hb]at h;exact absurd h.symm hv
    |true=>rw[hb]at h;simp only[cond]at h;obtain⟨v',h1,h2⟩:=mH (w:=w) hagg hs hl hc h hv;refine⟨v',?_,h2⟩;unfold Instr.index;simp only[asIntOf,Sem.run_bind,Sem.run_pure,Result.andThen_ok,run_underlying hu,Sem.run_ite];rw[if_pos (by have:=au hb;simp only[Int.ofNat_eq_natCast];omega)];simp only[bs hs,Result.andThen_ok,Int.ofNat_eq_natCast,Int.toNat_natCast];exact h1
   |_=>exact absurd h.symm hv
 |_=>exact absurd h.symm hv
theorem td{x v:AVal}{x':Value}{i:Nat}(hx:VR ρ ω x x')(h:extractV x i=v)(hv:v≠.bad):∃v',(Instr.extract x' i).run P w=.ok v' w/\VR ρ ω v v':=by
 unfold extractV at h;cases hx with
 |tup l vs hl=>
  simp only at h;cases hq:l[i]? with
  |none=>rw[hq]at h;exact absurd h.symm hv
  |some u=>rw[hq]at h;simp only at h;subst h;obtain⟨u',h1,h2⟩:=hl.get i u hq;refine⟨u',?_,h2⟩;unfold Instr.extract;simp only[List.getElem?_toArray,h1];rfl
 |_=>exact absurd h.symm hv
end Go.Ex
namespace Go.Ex
open Go
variable{P:Program}{ρ:Rho}{ω:Nat->Value}{H:AH}{w:World}
theorem bQ{t e:TypeId}(ht:tElem P t=some e):P.underlying t=some (.slice e):=by
 unfold tElem at ht;split at ht
 .rename_i e' he;simp only[Option.some.injEq]at ht;subst ht;exact he
 .cases ht
theorem cY{x:AVal}{x':Value}{n:Nat}(hx:VR ρ ω x x')(h:natOf x=some n):∃k,x'=.int k n:=by
 unfold natOf at h;split at h
 .rename_i k m;simp only[Option.some.injEq]at h;subst h;cases hx;exact⟨k,rfl⟩
 .cases h
theorem gk{k:IntKind}{n y:Nat}{code:BoundsCode}(h:n<=y):(Instr.sliceBound (.int k n) y code).run P w=.ok n w:=by unfold Instr.sliceBound;simp only[asIntOf,Sem.run_bind,Sem.run_pure,Result.andThen_ok,Sem.run_ite];rw[if_pos (by omega)];simp
def loOk(lo:Option Value)(l:Nat):Prop:=(lo=none/\l=0)\/∃k,lo=some (.int k l)
def hiOk(hi:Option Value)(h:Option Nat):Prop:=(hi=none/\h=none)\/∃(k:IntKind) (n:Nat),hi=some (.int k n)/\h=some n
theorem te{lo hi:Option Value}{l:Nat}{h:Option Nat}(hlo:loOk lo l)(hhi:hiOk hi h){len cap:Nat}(h1:l<=h.getD len)(h2:h.getD len<=cap)(h3:len<=cap\/h≠none):(Instr.sliceBounds true len cap lo hi none).run P w=.ok (l,h.getD len,cap) w:=by
 unfold Instr.sliceBounds;rcases hhi with⟨rfl,rfl⟩|⟨k,n,rfl,rfl⟩
 .rcases hlo with⟨rfl,rfl⟩|⟨kl,rfl⟩
  .rfl
  .simp only[Option.getD_none]at h1;simp only[Option.isSome_none,Bool.false_eq_true,if_false,Sem.run_bind,Sem.run_pure,Result.andThen_ok,gk h1,Option.getD_none]
 .simp only[Option.getD_some]at h1 h2;rcases hlo with⟨rfl,rfl⟩|⟨kl,rfl⟩
  .simp only[if_true,Sem.run_bind,Sem.run_pure,Result.andThen_ok,gk h2,Option.getD_some]
  .simp only[Option.isSome_none,Bool.false_eq_true,if_true,if_false,Sem.run_bind,Sem.run_pure,Result.andThen_ok,gk h2,gk h1,Option.getD_some]
theorem gm{t e:TypeId}{s:Nat}(ht:tElem P t=some e)(hs:tSize P e=some s){lo hi:Option Value}{l:Nat}{h:Option Nat}(hlo:loOk lo l)(hhi:hiOk hi h){a:Option Addr}{len cap:Nat}(h1:l<=h.getD len)(h2:h.getD len<=cap)(h3:len<=cap\/h≠none):(Instr.sliceAt t (.slice a len cap) lo hi none).run P w=.ok (.slice (if cap=l then a else a.map (·.add (l*s))) (h.getD len-l) (cap-l)) w:=by have hu:=bQ ht;unfold Instr.sliceAt;rw[Sem.run_bind,run_underlying hu,Result.andThen_ok];unfold Instr.slice;rw[Sem.run_bind,run_underlying hu,Result.andThen_ok];simp only[Sem.run_bind,te hlo hhi h1 h2 h3,Result.andThen_ok,bs hs,Sem.run_pure]
theorem gr{t e:TypeId}{s:Nat}(ht:tElem P t=some e)(hs:tSize P e=some s){lo hi:Option Value}{l:Nat}{h:Option Nat}(hlo:loOk lo l)(hhi:hiOk hi h){x v:AVal}{x':Value}(hx:VR ρ ω x x')(hv0:slcV s x l h=v)(hv:v≠.bad):∃v',(Instr.sliceAt t x' lo hi none).run P w=.ok v' w/\VR ρ ω v v':=by
 unfold slcV at hv0;cases hx with
 |sl id off len cap i hi'=>
  simp only at hv0;cases hb:(Nat.ble l (h.getD len)&&Nat.ble (h.getD len) cap)with
  |false=>rw[hb]at hv0;exact absurd hv0.symm hv
  |true=>
   rw[hb]at hv0;simp only[cond]at hv0;rw[Bool.and_eq_true]at hb;have b1:=Nat.le_of_ble_eq_true hb.1;have b2:=Nat.le_of_ble_eq_true hb.2
   have h3:len<=cap\/h≠none:=by
    cases h with
    |none=>exact .inl b2
    |some n=>exact .inr (by simp)
   subst hv0;refine⟨_,gm ht hs hlo hhi b1 b2 h3,?_⟩;by_cases hc:cap=l
   .have hbeq:Nat.beq cap l=true:=by rw[Nat.beq_eq];exact hc
    rw[if_pos hc,hbeq];exact .sl id off _ _ i hi'
   .have hbeq:Nat.beq cap l=false:=by
     cases hq:Nat.beq cap l with
     |false=>rfl
     |true=>exact absurd (Nat.eq_of_beq_eq_true hq) hc
    rw[if_neg hc,hbeq];simp only[Option.map_some,bO,Nat.add_assoc];exact .sl id (off+l*s) _ _ i hi'
 |sg id off len ez cap i hi' hl hlim=>
  simp only at hv0;cases hb:(Nat.beq s ez&&(Nat.ble l (h.getD len)&&Nat.ble (h.getD len) len))with
  |false=>rw[hb]at hv0;exact absurd hv0.symm hv
  |true=>
   rw[hb]at hv0;simp only[cond]at hv0;rw[Bool.and_eq_true,Bool.and_eq_true]at hb;obtain rfl:=Nat.eq_of_beq_eq_true hb.1;have b1:=Nat.le_of_ble_eq_true hb.2.1;have b2:=Nat.le_of_ble_eq_true hb.2.2;refine⟨_,gm ht hs hlo hhi b1 (by omega) (.inl hl),?_⟩;cases hlt:Nat.blt l len with
   |true=>rw[hlt]at hv0;simp only at hv0;have hll:l<len:=au hlt;subst hv0;rw[if_neg (by omega)];simp only[Option.map_some,bO,Nat.add_assoc];refine .sg id (off+l*s) _ s (cap-l) i hi' (by show h.getD len-l<=cap-l;omega) ?_;rw[Nat.sub_mul];have:l*s<=cap*s:=Nat.mul_le_mul_right _ (by omega);omega
   |false=>
    rw[hlt]at hv0;simp only at hv0;cases h0:Nat.beq l 0 with
    |true=>
     rw[h0]at hv0;simp only at hv0;obtain rfl:=Nat.eq_of_beq_eq_true h0
     have hln:len=0:=by
      rcases Nat.eq_zero_or_pos len with e|e
      .exact e
      .have:Nat.blt 0 len=true:=Nat.ble_eq_true_of_le e;rw[this]at hlt;cases hlt
     subst hv0;have hg:h.getD len=0:=by omega
     rw[hg]
     have haddr:(if cap=0 then some (⟨i.blk,i.base+off,none⟩:Addr)else Option.map (λ(x:Addr)=>x.add (0*s)) (some ⟨i.blk,i.base+off,none⟩))=some ⟨i.blk,i.base+off,none⟩:=by
      split
      .rfl
      .simp[bO]
     rw[haddr];exact .sg id off 0 s (cap-0) i hi' (by omega) (by simpa using hlim)
    |false=>
     rw[h0]at hv0;simp only at hv0;subst hv0
     have hge:len<=l:=by
      rcases Nat.lt_or_ge l len with e|e
      .have:Nat.blt l len=true:=Nat.ble_eq_true_of_le e;rw[this]at hlt;cases hlt
      .exact e
     have hz:h.getD len-l=0:=by omega
     rw[hz]
     have haddr:∃b,(if cap=l then some (⟨i.blk,i.base+off,none⟩:Addr)else Option.map (λ(x:Addr)=>x.add (l*s)) (some ⟨i.blk,i.base+off,none⟩))=some b:=by
      split
      .exact⟨_,rfl⟩
      .exact⟨_,rfl⟩
     obtain⟨b,hb'⟩:=haddr;rw[hb'];exact .se b _
 |snil=>
  simp only at hv0;cases hb:(Nat.beq l 0&&Nat.beq (h.getD 0) 0)with
  |false=>rw[hb]at hv0;exact absurd hv0.symm hv
  |true=>rw[hb]at hv0;simp only[cond]at hv0;subst hv0;rw[Bool.and_eq_true]at hb;obtain rfl:=Nat.eq_of_beq_eq_true hb.1;have b2:h.getD 0=0:=Nat.eq_of_beq_eq_true hb.2;refine⟨_,gm ht hs hlo hhi (by omega) (by omega) (.inl (Nat.le_refl 0)),?_⟩;rw[b2];exact .snil
 |se a cap=>
  simp only at hv0;cases hb:(Nat.beq l 0&&Nat.beq (h.getD 0) 0)with
  |false=>rw[hb]at hv0;exact absurd hv0.symm hv
  |true=>
   rw[hb]at hv0;simp only[cond]at hv0;subst hv0;rw[Bool.and_eq_true]at hb;obtain rfl:=Nat.eq_of_beq_eq_true hb.1;have b2:h.getD 0=0:=Nat.eq_of_beq_eq_true hb.2;refine⟨_,gm ht hs hlo hhi (by omega) (by omega) (.inl (Nat.zero_le _)),?_⟩;rw[b2]
   have haddr:∃b,(if cap=0 then some a else Option.map (λ(x:Addr)=>x.add (0*s)) (some a))=some b:=by
    split
    .exact⟨_,rfl⟩
    .exact⟨_,rfl⟩
   obtain⟨b,hb'⟩:=haddr;rw[hb'];exact .se b _
 |_=>exact absurd hv0.symm hv
end Go.Ex
namespace Go.Ex
open Go
variable{P:Program}{ρ:Rho}{ω:Nat->Value}{H:AH}{w:World}
theorem tf{x:AVal}{x':Value}{n:Nat}(hx:VR ρ ω x x')(h:lenV x=some n):∃b c,x'=.slice b n c:=by
 unfold lenV at h
 cases hx<;>first
  |(cases h;done)
  |(simp only[Option.some.injEq]at h;subst h;exact⟨_,_,rfl⟩)
theorem tg{t e ty:TypeId}(ht:tElem P t=some e){x v:AVal}{x':Value}(hx:VR ρ ω x x')(h:lenOf x=v)(hv:v≠.bad):∃v',(Builtin.len_ #[t] ty #[x']).run P w=.ok v' w/\VR ρ ω v v':=by
 have one:∀{b c n},x'=.slice b n c->v=.int .i64 (.ofNat n)->∃v',(Builtin.len_ #[t] ty #[x']).run P w=.ok v' w/\VR ρ ω v v':=by rintro b c n rfl rfl;refine⟨goInt n,?_,.int _ _⟩;simp[Builtin.len_,run_underlying (bQ ht)]
 have gen:lenL1 x=v->∃v',(Builtin.len_ #[t] ty #[x']).run P w=.ok v' w/\VR ρ ω v v':=by
  intro h;unfold lenL1 at h;cases hl:lenV x with
  |none=>rw[hl]at h;exact absurd h.symm hv
  |some n=>rw[hl]at h;obtain⟨b,c,e⟩:=tf hx hl;exact one e h.symm
 cases x with
 |mag n=>
  cases hx with
  |mag n b o len cap c hc hm=>have h:magLen n=v:=h;unfold magLen at h;exact one rfl (by rw[<-h,hm.lenN])
 |_=>exact gen h
theorem th{t ty:TypeId}(ht:P.underlying t=some .string){x v:AVal}{x':Value}(hx:VR ρ ω x x')(h:lensOf x=v)(hv:v≠.bad):∃v',(Builtin.len_ #[t] ty #[x']).run P w=.ok v' w/\VR ρ ω v v':=by
 unfold lensOf at h;cases hx with
 |str s=>simp only at h;subst h;refine⟨goInt s.size,?_,.int _ _⟩;simp[Builtin.len_,run_underlying ht]
 |_=>exact absurd h.symm hv
theorem ti{x y v:AVal}{x' y':Value}(hx:VR ρ ω x x')(hy:VR ρ ω y y')(h:max2 x y=v)(hv:v≠.bad):∃v',(Builtin.max2 x' y').run P w=.ok v' w/\VR ρ ω v v':=by
 unfold max2 at h;cases hx with
 |int k m=>cases hy with
  |int l n=>
   simp only at h;cases hk:kindEq k l with
   |false=>rw[hk]at h;exact absurd h.symm hv
   |true=>
    rw[hk]at h;simp only[cond]at h;subst h;refine⟨.int k (if n>m then n else m),rfl,?_⟩;rw[dW];by_cases hc:m<n
    .rw[if_pos hc,decide_eq_true hc];exact .int _ _
    .rw[if_neg hc,decide_eq_false hc];exact .int _ _
  |_=>exact absurd h.symm hv
 |_=>exact absurd h.symm hv
theorem tj{x y v:AVal}{x' y':Value}(hx:VR ρ ω x x')(hy:VR ρ ω y y')(h:min2 x y=v)(hv:v≠.bad):∃v',(Builtin.min2 x' y').run P w=.ok v' w/\VR ρ ω v v':=by
 unfold min2 at h;cases hx with
 |int k m=>cases hy with
  |int l n=>
   simp only at h;cases hk:kindEq k l with
   |false=>rw[hk]at h;exact absurd h.symm hv
   |true=>
    rw[hk]at h;simp only[cond]at h;subst h;refine⟨.int k (if n<m then n else m),rfl,?_⟩;rw[dW];by_cases hc:n<m
    .rw[if_pos hc,decide_eq_true hc];exact .int _ _
    .rw[if_neg hc,decide_eq_false hc];exact .int _ _
  |_=>exact absurd h.symm hv
 |_=>exact absurd h.symm hv
theorem tl(y:AVal):max2 .bad y=.bad:=by cases y<;>rfl
theorem tp(y:AVal):min2 .bad y=.bad:=by cases y<;>rfl
theorem tq{f:AVal->AVal->AVal}(hf:∀y,f .bad y=.bad)(l:List AVal):foldV f .bad l=.bad:=by
 induction l with
 |nil=>rfl
 |cons a l ih=>simp only[foldV,hf,ih]
theorem mI{f:AVal->AVal->AVal}{g:Value->Value->Sem Value}(hb:∀y,f .bad y=.bad)(hfg:∀{x y v:AVal} {x' y':Value},VR ρ ω x x'->VR ρ ω y y'->f x y=v->v≠.bad->∃v',(g x' y').run P w=.ok v' w/\VR ρ ω v v'){l:List AVal}{vs:List Value}(hl:All2 (VR ρ ω) l vs):∀{x v:AVal} {x':Value},VR ρ ω x x'->foldV f x l=v->v≠.bad->∃v',(vs.foldlM g x').run P w=.ok v' w/\VR ρ ω v v':=by
 induction hl with
 |nil=>intro x v x' hx h hv;exact⟨x',rfl,by rw[<-h];exact hx⟩
 |cons ha _ ih=>
  intro x v x' hx h hv;rename_i a b l' r' _;simp only[foldV]at h;by_cases hbad:f x a=.bad
  .rw[hbad,tq hb]at h;exact absurd h.symm hv
  .obtain⟨u,h1,h2⟩:=hfg hx ha rfl hbad;obtain⟨v',h3,h4⟩:=ih h2 h hv;exact⟨v',by rw[List.foldlM_cons,Sem.run_bind,h1,Result.andThen_ok];exact h3,h4⟩
theorem tr{ts:Array TypeId}{ty:TypeId}{l:List AVal}{vs:List Value}{v:AVal}(hl:All2 (VR ρ ω) l vs)(h:maxV l=v)(hv:v≠.bad):∃v',(Builtin.max_ ts ty vs.toArray).run P w=.ok v' w/\VR ρ ω v v':=by
 cases hl with
 |nil=>exact absurd h.symm hv
 |cons ha ht=>exact mI (g:=Builtin.max2) tl ti ht ha h hv
theorem tu{ts:Array TypeId}{ty:TypeId}{l:List AVal}{vs:List Value}{v:AVal}(hl:All2 (VR ρ ω) l vs)(h:minV l=v)(hv:v≠.bad):∃v',(Builtin.min_ ts ty vs.toArray).run P w=.ok v' w/\VR ρ ω v v':=by
 cases hl with
 |nil=>exact absurd h.symm hv
 |cons ha ht=>exact mI (g:=Builtin.min2) tp tj ht ha h hv
theorem tv{t:TypeId}(ht:P.underlying t=some .string){x i v:AVal}{x' i':Value}(hx:VR ρ ω x x')(hi:VR ρ ω i i')(h:idxSV x i=v)(hv:v≠.bad):∃v',(Instr.index t x' i').run P w=.ok v' w/\VR ρ ω v v':=by
 unfold idxSV at h;cases hi with
 |int k m=>cases m with
  |negSucc m=>exact absurd h.symm hv
  |ofNat j=>
   simp only at h;cases hx with
   |str s=>
    simp only at h;cases hq:s.data.toList[j]? with
    |none=>rw[hq]at h;exact absurd h.symm hv
    |some b=>
     rw[hq]at h;simp only at h;subst h;refine⟨.int .u8 b.toNat,?_,.int _ _⟩;have hj:j<s.data.toList.length:=(List.getElem?_eq_some_iff.1 hq).1;have hj':j<s.size:=by simpa using hj
     have hget:s[j]?=some b:=by
      have h1:s[j]?=some s[j]:=by simp[getElem?_pos,hj']
      rw[h1];have h2:=(List.getElem?_eq_some_iff.1 hq).2;rw[<-h2];rfl
     unfold Instr.index;simp only[asIntOf,Sem.run_bind,Sem.run_pure,Result.andThen_ok,run_underlying ht];rw[if_pos (by simp only[Int.ofNat_eq_natCast];omega)];simp only[Int.ofNat_eq_natCast,Int.toNat_natCast,hget,Sem.run_pure]
   |_=>exact absurd h.symm hv
 |_=>exact absurd h.symm hv
end Go.Ex
namespace Go.Ex
open Go
variable{P:Program}{ρ:Rho}{ω:Nat->Value}{H:AH}{w:World}
theorem tw{v:Value}{x:AVal}(h:scalarOf v=some x):x.cells=[x]/\v.cells=#[v]:=by
 unfold scalarOf at h
 split at h<;>first
  |(simp only[Option.some.injEq]at h;subst h;exact⟨rfl,rfl⟩)
  |cases h
theorem dy{v:Value}{x:AVal}(h:ofValue v=some x):All2 (VR ρ ω) x.cells v.cells.toList/\∀u∈v.cells.toList,u.oneCell'=true:=by
 unfold ofValue at h;split at h
 .rename_i cs;simp only[Option.map_eq_some_iff]at h;obtain⟨l,hl,rfl⟩:=h;exact mD hl
 .obtain⟨h1,h2⟩:=tw h;obtain⟨h3,h4⟩:=jH (ρ:=ρ) (ω:=ω) h;rw[h1,h2];exact⟨.cons h3 .nil,by simpa using h4⟩
theorem b7{t:TypeId}{z:AVal}(h:tZero P t=some z):∃it zv,P.info? t=some it/\it.zero=some zv/\ofValue zv=some z:=by unfold tZero at h;rw[Option.bind_eq_some_iff]at h;obtain⟨zv,h1,h2⟩:=h;rw[Option.bind_eq_some_iff]at h1;obtain⟨it,h3,h4⟩:=h1;exact⟨it,zv,h3,h4,h2⟩
theorem dX{t:TypeId}{n:Nat}(h:tSize P t=some n):∃it,P.info? t=some it/\it.size=n:=by unfold tSize at h;rw[Option.map_eq_some_iff]at h;exact h
theorem jJ(off:Nat):∀(l:List Value) (k:Nat) (cells:Array Value),off+k+l.length<=cells.size->(l.zipIdx k).foldl (λcs (x:Value×Nat)=>cs.setIfInBounds (off+x.2) x.1) cells=splice cells (off+k) l
 |[],k,cells,h=>by simp only[List.zipIdx_nil,List.foldl_nil,splice,List.append_nil,List.length_nil,Nat.add_zero,List.take_append_drop,Array.toArray_toList]
 |v::l,k,cells,h=>by
  simp only[List.length_cons]at h;simp only[List.zipIdx_cons,List.foldl_cons];rw[jJ off l (k+1) _ (by simp;omega)];apply Array.ext_getElem?;intro q;rw[bF (by simp;omega),bF (by simp;omega)];simp only[List.length_cons];by_cases h1:q<off+k
  .rw[if_pos (by omega),if_pos h1,Array.getElem?_setIfInBounds_ne (by omega)]
  .rw[if_neg h1];by_cases h2:q=off+k
   .subst h2;rw[if_pos (by omega),if_pos (by omega)];rw[Array.getElem?_setIfInBounds_self_of_lt (by omega)];simp
   .rw[if_neg (by omega)];by_cases h3:q<off+(k+1)+l.length
    .rw[if_pos h3,if_pos (by omega)];rw[show q-(off+k)=(q-(off+(k+1)))+1 by omega,List.getElem?_cons_succ]
    .rw[if_neg h3,if_neg (by omega),Array.getElem?_setIfInBounds_ne (by omega)]
theorem mJ{c:Array Value}{o:Nat}{vs:List Value}:(splice c o vs).toList=c.toList.take o++vs++c.toList.drop (o+vs.length):=by simp[splice]
variable{N:Nat}{S:List (Nat×Pth)}{G:Ctx}{L:List AVal}{e:T8 AVal}{a:Act}
theorem jK(hω:∀i,(ω i).oneCell'=true)(hg:GlobOk P ρ)(he:EnvOk ρ ω S e a.tmps)(hc:CtxOk ρ ω G L e a.tmps){fs place:Nat->Option (Nat×Nat)}(hfs:∀i q,fs i=some q->place i=some q) :
 ∀(ps:List (Nat×Operand)) (parts:List (Nat×Nat×COpd)) (z:List AVal) (cells:Array Value) (v:AVal),cParts P N S G fs ps=some parts->All2 (VR ρ ω) z cells.toList->(∀u∈cells.toList,u.oneCell'=true)->
  buildV L e z parts=v->v≠.bad->∃cells',Instr.fill place cells (ps.map λ(i,x)=>(i,a.eval x))=some cells'/\VR ρ ω v (.agg cells')
 |[],parts,z,cells,v,hp,hz,hone,hb,hv=>by simp only[cParts,Option.some.injEq]at hp;subst hp;simp only[buildV]at hb;subst hb;exact⟨cells,rfl,by have:=VR.agg (ρ:=ρ) (ω:=ω) z cells.toList hz hone;simpa using this⟩
 |(i,x)::ps,parts,z,cells,v,hp,hz,hone,hb,hv=>by
  simp only[cParts,Option.bind_eq_some_iff]at hp;obtain⟨⟨o,s⟩,h1,hp⟩:=hp;obtain⟨cx,h2,hp⟩:=hp;obtain⟨r,h3,h4⟩:=hp;simp only[Option.some.injEq]at h4;subst h4;simp only[buildV]at hb;cases hl:(Nat.blt 0 s&&lenIs (cx.ev L e).cells s)with
  |false=>rw[hl]at hb;exact absurd hb.symm hv
  |true=>
   rw[hl]at hb;simp only[cond]at hb;rw[Bool.and_eq_true]at hl;have hpos:0<s:=au hl.1;have hlen:=cV hl.2;have hx:=bG hg he hc h2;obtain⟨hcs,hco⟩:=eN hω hx (by intro e;rw[e]at hlen;simp at hlen;omega);cases hov:overAt o (cx.ev L e).cells z with
   |none=>rw[hov]at hb;exact absurd hb.symm hv
   |some z'=>
    rw[hov]at hb;simp only at hb;obtain⟨e1,e2⟩:=mw hov;have hvs:(a.eval x).cells.size=s:=by have:=hcs.length;rw[hlen]at this;simpa using this.symm
    have hfit:o+(a.eval x).cells.size<=cells.size:=by
     have:=hz.length;rw[hvs];have h5:cells.toList.length=cells.size:=by simp
     omega
    have hfold:(a.eval x).cells.zipIdx.foldl (λcs (c,j)=>cs.setIfInBounds (o+j) c) cells=splice cells o (a.eval x).cells.toList:=by rw[<-Array.foldl_toList,Array.toList_zipIdx];exact jJ o _ 0 cells (by simpa using hfit)
    have hz':All2 (VR ρ ω) z' (splice cells o (a.eval x).cells.toList).toList:=by rw[e1,mJ];have h6:(a.eval x).cells.toList.length=(cx.ev L e).cells.length:=hcs.length.symm;rw[h6];exact((hz.take _).append hcs).append (hz.drop _)
    have hone':∀u∈(splice cells o (a.eval x).cells.toList).toList,u.oneCell'=true:=by
     intro u hu;rw[mJ]at hu;simp only[List.mem_append]at hu;rcases hu with(hu|hu)|hu
     .exact hone u (List.mem_of_mem_take hu)
     .exact hco u hu
     .exact hone u (List.mem_of_mem_drop hu)
    obtain⟨cells',h7,h8⟩:=jK hω hg he hc hfs ps r z' _ v h3 hz' hone' hb hv;refine⟨cells',?_,h8⟩;simp only[List.map_cons,Instr.fill,hfs i _ h1,hvs];have hcond:((s !=s)||decide (o+s>cells.size))=false:=by rw[hvs]at hfit;simp only[bne_self_eq_false,Bool.false_or,decide_eq_false_iff_not];omega
    rw[if_neg (by rw[hvs]at hfit;simp;omega)];rw[hfold];exact h7
theorem tx{fs:List Field}(h:fs.all (λf=>(tSize P f.type).isSome)=true):∃places,fs.mapM (λf=>(P.info? f.type).map λi=>(f.offset,i.size))=some places/\∀(i:Nat) (f:Field),fs[i]?=some f->∃s,tSize P f.type=some s/\places[i]?=some (f.offset,s):=by
 induction fs with
 |nil=>exact⟨[],rfl,by simp⟩
 |cons f fs ih=>
  rw[List.all_cons,Bool.and_eq_true]at h;obtain⟨places,h1,h2⟩:=ih h.2;obtain⟨s,hs⟩:=Option.isSome_iff_exists.1 h.1;obtain⟨it,hi,hsz⟩:=dX hs;refine⟨(f.offset,s)::places,?_,?_⟩
  .simp only[List.mapM_cons,hi,Option.map_some,h1,hsz];rfl
  .intro i f' hf;cases i with
   |zero=>simp only[List.getElem?_cons_zero,Option.some.injEq]at hf;subst hf;exact⟨s,hs,rfl⟩
   |succ i=>simp only[List.getElem?_cons_succ]at hf⊢;exact h2 i f' hf
theorem tz(hω:∀i,(ω i).oneCell'=true)(hg:GlobOk P ρ)(he:EnvOk ρ ω S e a.tmps)(hc:CtxOk ρ ω G L e a.tmps){t:TypeId}{z v:AVal}(hz:tZero P t=some z){fields:Array Field}(hu:P.underlying t=some (.struct fields))(hall:fields.toList.all (λf=>(tSize P f.type).isSome)=true){ps:Array (Nat×Operand)}{parts:List (Nat×Nat×COpd)}(hp:cParts P N S G (λi=>(fields[i]?).bind λf=>(tSize P f.type).map λs=>(f.offset,s)) ps.toList=some parts)(hb:buildV L e z.cells parts=v)(hv:v≠.bad):∃v',(Instr.build t (ps.map λ(i,x)=>(i,a.eval x))).run P w=.ok v' w/\VR ρ ω v v':=by
 obtain⟨it,zv,hi,hzv,hof⟩:=b7 hz;obtain⟨hzc,hzo⟩:=dy (ρ:=ρ) (ω:=ω) hof;obtain⟨places,hpl,hpi⟩:=tx hall
 obtain⟨cells',hf,hvr⟩:=jK (place:=(places.toArray[·]?)) hω hg he hc (λi q hq=>by
  rw[Option.bind_eq_some_iff]at hq;obtain⟨f,hf,hq⟩:=hq;obtain⟨s,hs,hps⟩:=hpi i f (by simpa using hf);rw[hs]at hq;simp only[Option.map_some,Option.some.injEq]at hq;subst hq
  simpa using hps) ps.toList parts z.cells zv.cells v hp hzc hzo hb hv
 refine⟨.agg cells',run_build w t _ cells' ?_,hvr⟩;unfold Program.built;rw[hi,hu];simp only[hzv,hpl];rw[<-hf];congr 1;simp
theorem tG(hω:∀i,(ω i).oneCell'=true)(hg:GlobOk P ρ)(he:EnvOk ρ ω S e a.tmps)(hc:CtxOk ρ ω G L e a.tmps){t el:TypeId}{n s:Nat}{z v:AVal}(hz:tZero P t=some z)(hu:P.underlying t=some (.array n el))(hs:tSize P el=some s){ps:Array (Nat×Operand)}{parts:List (Nat×Nat×COpd)}(hp:cParts P N S G (λi=>some (i*s,s)) ps.toList=some parts)(hb:buildV L e z.cells parts=v)(hv:v≠.bad):∃v',(Instr.build t (ps.map λ(i,x)=>(i,a.eval x))).run P w=.ok v' w/\VR ρ ω v v':=by obtain⟨it,zv,hi,hzv,hof⟩:=b7 hz;obtain⟨ie,hie,hsz⟩:=dX hs;obtain⟨hzc,hzo⟩:=dy (ρ:=ρ) (ω:=ω) hof;obtain⟨cells',hf,hvr⟩:=jK (place:=λi=>some (i*s,s)) hω hg he hc (λi q hq=>hq) ps.toList parts z.cells zv.cells v hp hzc hzo hb hv;refine⟨.agg cells',run_build w t _ cells' ?_,hvr⟩;unfold Program.built;rw[hi,hu];simp only[hzv,hie,hsz];rw[<-hf];congr 1;simp
end Go.Ex
namespace Go.Ex
open Go
variable{P:Program}{ρ:Rho}{ω:Nat->Value}{H:AH}{w:World}
theorem jL(hr:HR P ρ ω H w){cells:Array Value}{T:TypeId}{esz n:Nat}{d:List AVal}{els:T8 (List AVal)}(ha:ArrOk ρ ω cells ⟨w.heap.size,0,n*esz⟩ esz n d els):Step P ρ ω H w (ext ρ H.next ⟨w.heap.size,0,n*esz⟩) (H.add (.arr esz n d els)) (w.alloc (.cells cells T)):=by refine hr.add (i:=⟨w.heap.size,0,n*esz⟩) rfl ⟨_,cells,T,ad _ _ _,?_,ha.mono (bh hr _)⟩;show(w.heap.push _)[w.heap.size]?=_;simp
theorem elem_nil(j:Nat)(d:List AVal):elem j d .nil=d:=by unfold elem;rw[get_nil];rfl
theorem mK(hω:∀i,(ω i).oneCell'=true)(hr:HR P ρ ω H w){x v:AVal}{x':Value}(hx:VR ρ ω x x'){H':AH}(h:mkR H (boxV x H.next)=.ok v H'){T:TypeId}:∃ρ' v' w',(do pure (.pointer (some (<-newVar T x'))):Sem Value).run P w=.ok v' w'/\VR ρ' ω v v'/\Step P ρ ω H w ρ' H' w':=by
 unfold boxV at h;cases hc:x.cells with
 |nil=>rw[hc]at h;cases h
 |cons c0 cs0=>
  rw[hc]at h;simp only[mkR,R.ok.injEq]at h;obtain⟨rfl,rfl⟩:=h;obtain⟨hcs,hone⟩:=eN hω hx (by rw[hc];simp);rw[hc]at hcs;have hlen:=hcs.length
  have ha:ArrOk ρ ω x'.cells ⟨w.heap.size,0,1*lenN (c0::cs0)⟩ (lenN (c0::cs0)) 1 (c0::cs0) .nil:={
   lim:=Nat.le_refl _
   size:=by show 0+1*lenN (c0::cs0)<=x'.cells.size;rw[gh];simp only[Array.length_toList]at hlen;omega
   els:=λj hj=>by
    have:j=0:=by omega
    subst this;rw[elem_nil];refine⟨x'.cells.toList,hcs,by rw[gh];exact hlen.symm,hone,λk u hk=>?_⟩
    simpa using hk}
  refine⟨_,.pointer (some ⟨w.heap.size,0,none⟩),_,?_,?_,jL hr (T:=T) ha⟩
  .simp[newVar,newRow]
  .exact .ptr H.next 0 ⟨w.heap.size,0,1*lenN (c0::cs0)⟩ (ad _ _ _)
theorem gu{α:Type}(f:Nat->α):(Array.range 0).map f=#[]:=by apply Array.ext';simp
theorem tH(zero:Array Value)(n q:Nat)(h:q<n):((Array.range n).map (zero[· % zero.size]!))[q]?=some (zero[q%zero.size]!):=by simp[h]
theorem gw{z:List AVal}{zs:Array Value}(hz:All2 (VR ρ ω) z zs.toList)(hone:∀u∈zs.toList,u.oneCell'=true){s n b:Nat}(hs:z.length=s):ArrOk ρ ω ((Array.range (n*s)).map (zs[· % zs.size]!)) ⟨b,0,n*s⟩ s n z .nil where
 lim:=Nat.le_refl _
 size:=by simp
 els:=λj hj=>by
  have hzl:zs.size=s:=by have:=hz.length;rw[hs]at this;simpa using this.symm
  rw[elem_nil];refine⟨zs.toList,hz,by simpa using hzl,hone,λk v hk=>?_⟩;have hk':k<s:=by have:=(List.getElem?_eq_some_iff.1 hk).1;simp only[Array.length_toList]at this;omega
  have hlt:j*s+k<n*s:=by have:(j+1)*s<=n*s:=Nat.mul_le_mul_right _ hj;rw[Nat.add_mul]at this;omega
  have h0:(0:Nat)+j*s+k=j*s+k:=by omega
  rw[h0,tH zs (n*s) _ hlt,hzl];have hm:(j*s+k)%s=k:=by rw[Nat.add_comm,Nat.add_mul_mod_self_right];exact Nat.mod_eq_of_lt hk'
  rw[hm];have hk2:zs[k]?=some v:=by simpa using hk
  rw[getElem!_def,hk2]
variable{N:Nat}{S:List (Nat×Pth)}{G:Ctx}{L:List AVal}{e:T8 AVal}{a:Act}
theorem jM(hω:∀i,(ω i).oneCell'=true)(hg:GlobOk P ρ)(he:EnvOk ρ ω S e a.tmps)(hc:CtxOk ρ ω G L e a.tmps){s n b:Nat}{z:List AVal} :
 ∀(ps:List (Nat×Operand)) (parts:List (Nat×COpd)) (t els:T8 (List AVal)) (cells:Array Value),cPartsS P N S G n ps=some parts->ArrOk ρ ω cells ⟨b,0,n*s⟩ s n z t->cells.size=n*s->
  bslV L e s t parts=some els->∃cells',Instr.fill (λi=>some (i*s,s)) cells (ps.map λ(i,x)=>(i,a.eval x))=some cells'/\ArrOk ρ ω cells' ⟨b,0,n*s⟩ s n z els
 |[],parts,t,els,cells,hp,ha,hsz,hb=>by simp only[cPartsS,Option.some.injEq]at hp;subst hp;simp only[bslV,Option.some.injEq]at hb;subst hb;exact⟨cells,rfl,ha⟩
 |(i,x)::ps,parts,t,els,cells,hp,ha,hsz,hb=>by
  simp only[cPartsS]at hp;cases hi:Nat.blt i n with
  |false=>rw[hi]at hp;cases hp
  |true=>
   rw[hi]at hp;simp only[cond,Option.bind_eq_some_iff]at hp;obtain⟨cx,h2,r,h3,h4⟩:=hp;simp only[Option.some.injEq]at h4;subst h4;have hin:=au hi;simp only[bslV]at hb;cases hl:(Nat.blt 0 s&&lenIs (cx.ev L e).cells s)with
   |false=>rw[hl]at hb;cases hb
   |true=>
    rw[hl]at hb;simp only[cond]at hb;rw[Bool.and_eq_true]at hl;have hpos:0<s:=au hl.1;have hlen:=cV hl.2;have hx:=bG hg he hc h2;obtain⟨hcs,hco⟩:=eN hω hx (by intro e;rw[e]at hlen;simp at hlen;omega);have hvs:(a.eval x).cells.toList.length=s:=by rw[<-hcs.length];exact hlen
    have hvs':(a.eval x).cells.size=s:=by simpa using hvs
    have hmul:(i+1)*s<=n*s:=Nat.mul_le_mul_right _ hin;rw[Nat.add_mul]at hmul;have hfit:i*s+(a.eval x).cells.toList.length<=cells.size:=by omega
    have hfold:(a.eval x).cells.zipIdx.foldl (λcs (c,j)=>cs.setIfInBounds (i*s+j) c) cells=splice cells (i*s) (a.eval x).cells.toList:=by rw[<-Array.foldl_toList,Array.toList_zipIdx];exact jJ (i*s) _ 0 cells (by simpa using hfit)
    have ha':ArrOk ρ ω (splice cells (i*s) (a.eval x).cells.toList) ⟨b,0,n*s⟩ s n z (t.put [] (cx.ev L e).cells (key i)):=by
     refine ha.put hin hcs hvs hco hpos (eT hfit) ?_ ?_
     .intro q hq;rw[bF hfit,hvs];by_cases q1:q<i*s
      .rw[if_pos q1]
      .rw[if_neg q1,if_neg (by simp only[Nat.zero_add]at hq;omega)]
     .intro k u hk;have hk':=(List.getElem?_eq_some_iff.1 hk).1;rw[bF hfit];simp only[Nat.zero_add];rw[if_neg (by omega),if_pos (by omega),<-hk];congr 1;omega
    obtain⟨cells',h7,h8⟩:=jM hω hg he hc ps r _ els _ h3 ha' (by rw[eT hfit];exact hsz) hb;refine⟨cells',?_,h8⟩;simp only[List.map_cons,Instr.fill];rw[if_neg (by simp[hvs'];omega),hfold];exact h7
theorem tI(hω:∀i,(ω i).oneCell'=true)(hr:HR P ρ ω H w)(hg:GlobOk P ρ)(he:EnvOk ρ ω S e a.tmps)(hc:CtxOk ρ ω G L e a.tmps){t el:TypeId}{n s:Nat}{z v:AVal}(ht:tElem P t=some el)(hs:tSize P el=some s)(hz:tZero P el=some z)(hsmall:Nat.blt (n*s) 65536=true)(hpos:Nat.blt 0 s=true)(hzl:lenIs z.cells s=true){ps:Array (Nat×Operand)}{parts:List (Nat×COpd)}(hp:cPartsS P N S G n ps.toList=some parts){H':AH}(h:mkR H (mkBlock L e (.bsl s n z.cells parts) H.next)=.ok v H'):∃ρ' v' w',(Instr.buildSlice t n (ps.map λ(i,x)=>(i,a.eval x))).run P w=.ok v' w'/\VR ρ' ω v v'/\Step P ρ ω H w ρ' H' w':=by
 obtain⟨it,zv,hi,hzv,hof⟩:=b7 hz;obtain⟨ie,hie,hsz⟩:=dX hs;rw[hi]at hie;cases hie;obtain⟨hzc,hzo⟩:=dy (ρ:=ρ) (ω:=ω) hof;have hpos:=au hpos;have hsmall:=au hsmall;simp only[mkBlock]at h;cases hb:bslV L e s .nil parts with
 |none=>rw[hb]at h;cases h
 |some els=>
  rw[hb]at h;simp only[mkR,R.ok.injEq]at h;obtain⟨rfl,rfl⟩:=h;obtain⟨cells',hf,ha⟩:=jM (b:=w.heap.size) hω hg he hc ps.toList parts .nil els _ hp (gw (n:=n) (b:=w.heap.size) hzc hzo (cV hzl)) (by simp) hb;have hf':Instr.fill (λi=>some (i*s,s)) ((Array.range (n*s)).map (zv.cells[· % zv.cells.size]!)) (ps.map λ(i,x)=>(i,a.eval x)).toList=some cells':=by rw[<-hf];congr 1;simp
  refine⟨_,.slice (some ⟨w.heap.size,0,none⟩) n n,_,?_,?_,jL hr (T:=el) ha⟩
  .by_cases hn:n=0
   .subst hn
    have hcells:cells'=#[]:=by
     have hps:parts=[]/\ps.toList=[]:=by
      cases hq:ps.toList with
      |nil=>rw[hq]at hp;simp only[cPartsS,Option.some.injEq]at hp;exact⟨hp.symm,rfl⟩
      |cons q r=>
       rw[hq]at hp;obtain⟨i,x⟩:=q;simp only[cPartsS]at hp;cases hi0:Nat.blt i 0 with
       |false=>rw[hi0]at hp;cases hp
       |true=>have:=au hi0;omega
     rw[hps.2]at hf;simp only[List.map_nil,Instr.fill,Option.some.injEq]at hf;rw[<-hf];simp
    have hps0:ps=#[]:=by
     apply Array.ext';cases hq:ps.toList with
     |nil=>rfl
     |cons q r=>
      rw[hq]at hp;obtain⟨i,x⟩:=q;simp only[cPartsS]at hp;cases hi0:Nat.blt i 0 with
      |false=>rw[hi0]at hp;cases hp
      |true=>have:=au hi0;omega
    subst hps0;subst hcells;simp[Instr.buildSlice,run_underlying (bQ ht),sizeOf,typeInfo,hi,newRow,Instr.fill,gu]
   .subst hsz
    exact run_buildSlice w t el n _ cells' it zv (bQ ht) hi hzv (by omega) (by
     intro h0;rcases Nat.mul_eq_zero.1 h0 with h1|h1
     .exact hn h1
     .omega) hf'
  .exact .sl H.next 0 n n ⟨w.heap.size,0,n*s⟩ (ad _ _ _)
theorem jN{need bytes:Nat}(h:small need bytes=true):need*bytes<2 ^ 40/\bytes<2 ^ 20/\need<2 ^ 40:=by unfold small at h;rw[Bool.and_eq_true,Bool.and_eq_true]at h;exact⟨au h.1,au h.2.1,au h.2.2⟩
theorem tJ(hr:HR P ρ ω H w){t el:TypeId}{s b:Nat}{z l c:AVal}{l' c':Value}(ht:tElem P t=some el)(hs:tSize P el=some s)(hby:tBytes P el=some b)(hz:tZero P el=some z)(hpos:Nat.blt 0 s=true)(hzl:lenIs z.cells s=true)(hl:VR ρ ω l l')(hc:VR ρ ω c c'){n m:Nat}(hln:natOf l=some n)(hcm:natOf c=some m)(hnm:n<=m)(hsm:small m b=true):∃v' w',(Instr.makeSlice t l' c').run P w=.ok v' w'/\VR (ext ρ H.next ⟨w.heap.size,0,m*s⟩) ω (.sl H.next 0 n m) v'/\Step P ρ ω H w (ext ρ H.next ⟨w.heap.size,0,m*s⟩) (H.add (.arr s m z.cells .nil)) w':=by
 obtain⟨it,zv,hi,hzv,hof⟩:=b7 hz;obtain⟨ie,hie,hsz⟩:=dX hs;rw[hi]at hie;cases hie;obtain⟨hzc,hzo⟩:=dy (ρ:=ρ) (ω:=ω) hof;have hpos:=au hpos;obtain⟨h1,h2,h3⟩:=jN hsm;obtain⟨k1,rfl⟩:=cY hl hln;obtain⟨k2,rfl⟩:=cY hc hcm;have hbytes:it.bytes=b:=by unfold tBytes at hby;rw[hi]at hby;simpa using hby
 have wl:IntKind.i64.wrap (n:Int)=n:=IntWalk.i64_in _ (by omega);have wc:IntKind.i64.wrap (m:Int)=m:=IntWalk.i64_in _ (by omega)
 have hmb:(b:Int)*(m:Int)<2 ^ 40:=by
  have:((m*b:Nat):Int)<((2 ^ 40:Nat):Int):=by exact_mod_cast h1
  rw[Int.natCast_mul,Int.mul_comm]at this;simpa using this
 refine⟨.slice (some ⟨w.heap.size,0,none⟩) n m,_,?_,.sl H.next 0 n m ⟨w.heap.size,0,m*s⟩ (ad _ _ _),jL hr (T:=el) (gw (n:=m) (b:=w.heap.size) hzc hzo (cV hzl))⟩;unfold Instr.makeSlice;simp only[asInt,asIntOf,Sem.run_bind,Sem.run_pure,Result.andThen_ok,run_underlying (bQ ht),typeInfo,run_program,hi,wl,wc,hbytes];rw[if_neg (by simp;omega)];simp only[Sem.run_bind,run_askRoom,Result.andThen_ok,sizeOf,typeInfo,run_program,hi,Sem.run_pure,hsz,Int.toNat_natCast];by_cases h0:m*s=0
 .have hm0:m=0:=by
   rcases Nat.mul_eq_zero.1 h0 with h|h
   .exact h
   .omega
  subst hm0;simp[newRow,gu]
 .rw[if_neg h0];simp[zeroValue,typeInfo,hi,hzv,newRow]
theorem tM(hr:HR P ρ ω H w){t:TypeId}{ty:TypeId}(_:t=ty):∃v' w',(Instr.makeMap t none).run P w=.ok v' w'/\VR (ext ρ H.next ⟨w.heap.size,0,0⟩) ω (.map H.next) v'/\Step P ρ ω H w (ext ρ H.next ⟨w.heap.size,0,0⟩) (H.add (.mp [])) w':=by refine⟨.map (some w.heap.size),_,rfl,.map H.next ⟨w.heap.size,0,0⟩ (ad _ _ _),?_⟩;refine hr.add (i:=⟨w.heap.size,0,0⟩) (ob:=.map #[] 0) rfl ⟨_,#[],0,ad _ _ _,?_,.nil⟩;show(w.heap.push _)[w.heap.size]?=_;simp
end Go.Ex
namespace Go.Ex
open Go
variable{P:Program}{ρ:Rho}{ω:Nat->Value}{H:AH}{w:World}
structure ElsOk(ρ:Rho)(ω:Nat->Value)(esz:Nat)(new:List (List AVal))(vals:List Value):Prop where
 len:vals.length=new.length*esz
 one:∀v∈vals,v.oneCell'=true
 els:∀(j:Nat) (cs:List AVal),new[j]?=some cs->∃us,All2 (VR ρ ω) cs us/\us.length=esz/\(∀u∈us,u.oneCell'=true)/\∀k u,us[k]?=some u->vals[j*esz+k]?=some u
theorem cZ(l:List (List AVal)):lenL l=l.length:=by
 induction l with
 |nil=>rfl
 |cons a l ih=>simp only[lenL,ih,List.length_cons]
theorem bu(d:List AVal)(els:T8 (List AVal))(j n:Nat):(elemsFrom d els j n).length=n:=by
 induction n generalizing j with
 |zero=>rfl
 |succ n ih=>simp only[elemsFrom,List.length_cons,ih]
theorem dY(d:List AVal)(els:T8 (List AVal))(j n m:Nat)(h:m<n):(elemsFrom d els j n)[m]?=some (elem (j+m) d els):=by
 induction n generalizing j m with
 |zero=>omega
 |succ n ih=>
  cases m with
  |zero=>rfl
  |succ m=>simp only[elemsFrom,List.getElem?_cons_succ];rw[ih (Nat.succ j) m (by omega)];congr 2;omega
theorem c_(d:List AVal):∀(new:List (List AVal)) (j0 m:Nat) (els:T8 (List AVal)),elem m d (putEls j0 new els)=if j0<=m then(match new[m-j0]? with|some c=>orElse d c|none=>elem m d els)else elem m d els
 |[],j0,m,els=>by simp[putEls]
 |c::new,j0,m,els=>by
  simp only[putEls];rw[c_ d new (Nat.succ j0) m];by_cases h1:j0<=m
  .rw[if_pos h1];by_cases h2:Nat.succ j0<=m
   .rw[if_pos h2];have e1:m-j0=(m-Nat.succ j0)+1:=by omega
    rw[e1,List.getElem?_cons_succ];cases new[m-Nat.succ j0]? with
    |none=>exact dT (by omega)
    |some c'=>rfl
   .have e1:m=j0:=by omega
    subst e1;rw[if_neg h2,jD];simp
  .rw[if_neg h1,if_neg (by omega),dT (by omega)]
theorem tN{c:Array Value}{o n:Nat}(h:o+n<=c.size):∃vals:List Value,vals.length=n/\∀k,k<n->∃v,vals[k]?=some v/\c[o+k]?=some v:=by refine⟨(c.toList.drop o).take n,by simp;omega,λk hk=>?_⟩;refine⟨c[o+k]'(by omega),?_,by simp⟩;rw[List.getElem?_take,if_pos hk,List.getElem?_drop];simp
theorem tO{esz q n:Nat}(hp:0<esz)(h:q<n*esz):q/esz<n/\q%esz<esz/\q=q/esz*esz+q%esz:=by refine⟨(Nat.div_lt_iff_lt_mul hp).2 h,Nat.mod_lt _ hp,?_⟩;rw[Nat.mul_comm];exact(Nat.div_add_mod q esz).symm
theorem ArrOk.elems{c:Array Value}{i:BI}{esz n:Nat}{d:List AVal}{els:T8 (List AVal)}(ha:ArrOk ρ ω c i esz n d els)(hp:0<esz){off len:Nat}(hmod:off%esz=0)(hfit:off/esz+len<=n):∃vals,ElsOk ρ ω esz (elemsFrom d els (off/esz) len) vals/\∀k v,vals[k]?=some v->c[i.base+off+k]?=some v:=by
 have hoff:off/esz*esz=off:=by have:=Nat.div_add_mod off esz;rw[hmod,Nat.mul_comm]at this;omega
 have hmul:(off/esz+len)*esz<=n*esz:=Nat.mul_le_mul_right _ hfit;rw[Nat.add_mul,hoff]at hmul;have hl:=ha.lim;have hs:=ha.size;obtain⟨vals,hv1,hv2⟩:=tN (c:=c) (o:=i.base+off) (n:=len*esz) (by omega);refine⟨vals,⟨by rw[bu];exact hv1,?_,?_⟩,?_⟩
 .intro v hv;obtain⟨q,hq⟩:=List.getElem?_of_mem hv;have hql:q<len*esz:=by have:=(List.getElem?_eq_some_iff.1 hq).1;omega
  obtain⟨h1,h2,h3⟩:=tO hp hql;obtain⟨us,_,u2,u3,u4⟩:=ha.els (off/esz+q/esz) (by omega);have hlt:q%esz<us.length:=by omega
  have hu:=u4 (q%esz) us[q%esz] (List.getElem?_eq_getElem hlt);obtain⟨v',hv',hc⟩:=hv2 q hql;rw[hq]at hv';cases hv';have e1:i.base+(off/esz+q/esz)*esz+q%esz=i.base+off+q:=by rw[Nat.add_mul,hoff];omega
  rw[e1,hc]at hu;simp only[Option.some.injEq]at hu;rw[hu];exact u3 _ (List.getElem_mem hlt)
 .intro j cs hj;have hjl:j<len:=by have:=(List.getElem?_eq_some_iff.1 hj).1;rw[bu]at this;exact this
  rw[dY _ _ _ _ _ hjl]at hj;simp only[Option.some.injEq]at hj;subst hj;obtain⟨us,u1,u2,u3,u4⟩:=ha.els (off/esz+j) (by omega);refine⟨us,u1,u2,u3,λk u hk=>?_⟩;have hkl:k<esz:=by have:=(List.getElem?_eq_some_iff.1 hk).1;omega
  have hlt:j*esz+k<len*esz:=by have:(j+1)*esz<=len*esz:=Nat.mul_le_mul_right _ hjl;rw[Nat.add_mul]at this;omega
  obtain⟨v',hv',hc⟩:=hv2 _ hlt;have hu:=u4 k u hk;have e1:i.base+(off/esz+j)*esz+k=i.base+off+(j*esz+k):=by rw[Nat.add_mul,hoff];omega
  rw[e1,hc]at hu;rw[hv',hu]
 .intro k v hk;have hkl:k<len*esz:=by have:=(List.getElem?_eq_some_iff.1 hk).1;omega
  obtain⟨v',hv',hc⟩:=hv2 k hkl;rw[hk]at hv';cases hv';exact hc
theorem ArrOk.putEls{c:Array Value}{i:BI}{esz n:Nat}{d:List AVal}{els:T8 (List AVal)}(ha:ArrOk ρ ω c i esz n d els)(hp:0<esz){new:List (List AVal)}{vals:List Value}(hn:ElsOk ρ ω esz new vals){j0:Nat}(hfit:j0+new.length<=n):ArrOk ρ ω (splice c (i.base+j0*esz) vals) i esz n d (putEls j0 new els):=by
 have hl:=ha.lim;have hs:=ha.size;have hmul:(j0+new.length)*esz<=n*esz:=Nat.mul_le_mul_right _ hfit;rw[Nat.add_mul]at hmul;have hvl:=hn.len;have hsp:i.base+j0*esz+vals.length<=c.size:=by omega
 refine⟨hl,by rw[eT hsp];exact hs,λm hm=>?_⟩;rw[c_];by_cases h1:j0<=m
 .rw[if_pos h1];cases hq:new[m-j0]? with
  |some cs=>
   obtain⟨us,u1,u2,u3,u4⟩:=hn.els _ _ hq;simp only;rw[bE (by intro e;subst e;have:=u1.length;simp at this;omega)];refine⟨us,u1,u2,u3,λk u hk=>?_⟩;have hkl:k<esz:=by have:=(List.getElem?_eq_some_iff.1 hk).1;omega
   have hml:m-j0<new.length:=(List.getElem?_eq_some_iff.1 hq).1;have e1:m*esz=j0*esz+(m-j0)*esz:=by rw[<-Nat.add_mul];congr 1;omega
   have e2:(m-j0+1)*esz<=new.length*esz:=Nat.mul_le_mul_right _ hml;rw[Nat.add_mul]at e2;rw[bF hsp,if_neg (by omega),if_pos (by omega),<-u4 k u hk];congr 1;omega
  |none=>simp only;obtain⟨us,u1,u2,u3,u4⟩:=ha.els m hm;refine⟨us,u1,u2,u3,λk u hk=>?_⟩;have hml:new.length<=m-j0:=List.getElem?_eq_none_iff.1 hq;have e2:(j0+new.length)*esz<=m*esz:=Nat.mul_le_mul_right _ (by omega);rw[Nat.add_mul]at e2;rw[bF hsp,if_neg (by omega),if_neg (by omega)];exact u4 k u hk
 .rw[if_neg h1];obtain⟨us,u1,u2,u3,u4⟩:=ha.els m hm;refine⟨us,u1,u2,u3,λk u hk=>?_⟩;have hkl:k<esz:=by have:=(List.getElem?_eq_some_iff.1 hk).1;omega
  have e2:(m+1)*esz<=j0*esz:=Nat.mul_le_mul_right _ (by omega);rw[Nat.add_mul]at e2;rw[bF hsp,if_pos (by omega)];exact u4 k u hk
theorem mL(hr:HR P ρ ω H w){esz:Nat}(hp:0<esz){x:AVal}{x':Value}(hx:VR ρ ω x x'){new:List (List AVal)}(h:elemsOf H esz x=some new):∃vals,ElsOk ρ ω esz new vals/\(Builtin.lenOf x').run P w=.ok new.length w/\∀(w2:World) (n:Nat),w2.heap=w.heap->n<=new.length->(Builtin.firstCells esz n x').run P w2=.ok (vals.take (n*esz)).toArray w2:=by
 have none_of:∀(b:Option Addr) (c:Nat) (w2:World) (n:Nat),w2.heap=w.heap->n<=0->(Builtin.firstCells esz n (.slice b 0 c)).run P w2=.ok #[] w2:=by
  intro b c w2 n _ hn;obtain rfl:=Nat.le_zero.1 hn;cases b with
  |none=>rfl
  |some a=>simp[Builtin.firstCells,loadCells,loadCellsFrom]
 have empty:ElsOk ρ ω esz [] []:=⟨by simp,by simp,by simp⟩
 have main:∀(id:Pth) (off len cap:Nat) (i:BI),ρ id=some i->(bif Nat.beq len 0 then some []else sliceElems H esz id off len)=some new->
  ∃vals,ElsOk ρ ω esz new vals/\(Builtin.lenOf (.slice (some ⟨i.blk,i.base+off,none⟩) len cap)).run P w=.ok new.length w/\
   ∀(w2:World) (n:Nat),w2.heap=w.heap->n<=new.length->(Builtin.firstCells esz n (.slice (some ⟨i.blk,i.base+off,none⟩) len cap)).run P w2=.ok (vals.take (n*esz)).toArray w2:=by
  intro id off len cap i hi h;cases hb:Nat.beq len 0 with
  |true=>rw[hb]at h;simp only[cond,Option.some.injEq]at h;subst h;obtain rfl:=Nat.eq_of_beq_eq_true hb;exact⟨[],empty,rfl,λw2 n h1 h2=>by rw[List.take_nil];exact none_of _ _ w2 n h1 h2⟩
  |false=>
   rw[hb]at h;simp only[cond]at h;unfold sliceElems at h;cases ho:H.m.get .dead id with
   |arr esz' n d els=>
    rw[ho]at h;simp only at h;cases hq:(Nat.beq esz esz'&&(Nat.beq (Nat.mod off esz) 0&&Nat.ble (Nat.add (Nat.div off esz) len) n))with
    |false=>rw[hq]at h;cases h
    |true=>
     rw[hq]at h;simp only[cond,Option.some.injEq]at h;rw[Bool.and_eq_true,Bool.and_eq_true]at hq;obtain rfl:=Nat.eq_of_beq_eq_true hq.1;have h1:off%esz=0:=Nat.eq_of_beq_eq_true hq.2.1;have h2:off/esz+len<=n:=Nat.le_of_ble_eq_true hq.2.2;have hok:=hr.ok id;rw[ho]at hok;obtain⟨i',c,T,hi',hc,ha⟩:=hok;rw[hi]at hi';cases hi';obtain⟨vals,hv,hcells⟩:=ha.elems hp h1 h2;have hnew:new=elemsFrom d els (off/esz) len:=h.symm;have hlen:new.length=len:=by rw[hnew];exact bu _ _ _ _
     refine⟨vals,by rw[hnew];exact hv,by rw[hlen];rfl,?_⟩;have hvl:vals.length=len*esz:=by have:=hv.len;rw[bu]at this;exact this
     rw[hlen];intro w2 n' hw2 hn';have htl:(vals.take (n'*esz)).length=n'*esz:=by have:n'*esz<=len*esz:=Nat.mul_le_mul_right _ hn';rw[List.length_take];omega
     show(loadCells ⟨i.blk,i.base+off,none⟩ (n'*esz)).run P w2=_
     have:=gi (P:=P) (w:=w2) (b:=i.blk) (by rw[hw2];exact hc) (o:=i.base+off) (vs:=vals.take (n'*esz)) (λk v hk=>hcells k v (by
      rw[List.getElem?_take]at hk;split at hk
      .exact hk
      .cases hk))
     rw[htl]at this;exact this
   |ro _ _ _ _=>rw[ho]at h;cases h
   |dead=>rw[ho]at h;cases h
   |lp _ _ _ _ _=>rw[ho]at h;cases h
   |mp _=>rw[ho]at h;cases h
   |fwd _ _ _ _ _=>rw[ho]at h;cases h
 cases hx with
 |snil=>simp only[elemsOf,Option.some.injEq]at h;subst h;exact⟨[],empty,rfl,λw2 n h1 h2=>by rw[List.take_nil];exact none_of _ _ w2 n h1 h2⟩
 |se b cap=>simp only[elemsOf,Option.some.injEq]at h;subst h;exact⟨[],empty,rfl,λw2 n h1 h2=>by rw[List.take_nil];exact none_of _ _ w2 n h1 h2⟩
 |sl id off len cap i hi=>exact main id off len cap i hi h
 |sg id off len ez cap i hi hl hlim=>exact main id off len cap i hi h
 |_=>cases h
theorem tP(hr:HR P ρ ω H w){esz:Nat}(hp:0<esz){x:AVal}{x':Value}(hx:VR ρ ω x x'){new:List (List AVal)}(h:elemsOf H esz x=some new):∃vals,ElsOk ρ ω esz new vals/\(Builtin.lenOf x').run P w=.ok new.length w/\∀w2:World,w2.heap=w.heap->(Builtin.firstCells esz new.length x').run P w2=.ok vals.toArray w2:=by
 obtain⟨vals,h1,h2,h3⟩:=mL hr hp hx h;refine⟨vals,h1,h2,λw2 hw2=>?_⟩;have:=h3 w2 new.length hw2 (Nat.le_refl _)
 rwa [List.take_of_length_le (by rw[h1.len];exact Nat.le_refl _)]at this
end Go.Ex
namespace Go.Ex
open Go
variable{P:Program}{ρ:Rho}{ω:Nat->Value}{H:AH}{w:World}
theorem HR.drew(hr:HR P ρ ω H w):HR P ρ ω H w.drew:=⟨λid=>ObjOk.mono (.refl _) (λ_ _=>rfl) (hr.ok id),hr.inj,hr.fresh,hr.num⟩
theorem Step.jO{ρ':Rho}{H':AH}{w':World}(h:Step P ρ ω H w.drew ρ' H' w'):Step P ρ ω H w ρ' H' w':=⟨h.sub,h.hr,h.os,h.tape,h.output,h.size,h.keep,h.al,h.imgo,h.next,h.dom,h.idle,h.nums⟩
theorem mM(newLen:Nat):∀(r c:Nat),c<newLen->Builtin.growBy newLen r c<=2*newLen+200
 |0,c,h=>by simp only[Builtin.growBy];omega
 |r+1,c,h=>by
  simp only[Builtin.growBy];rw[if_neg (by omega)];by_cases h2:c+(c+768)/4<newLen
  .exact mM newLen r _ h2
  .cases r with
   |zero=>simp only[Builtin.growBy];omega
   |succ r=>simp only[Builtin.growBy];rw[if_pos (by omega)];omega
theorem tQ{need cap:Nat}(h:cap<need):Builtin.nextslicecap need cap<=2*need+200:=by
 unfold Builtin.nextslicecap;split
 .omega
 .split
  .omega
  .exact mM _ 4 _ h
structure ElemT(P:Program)(t e:TypeId)(esz bytes:Nat):Prop where
 el:P.underlying t=some (.slice e)
 sz:tSize P e=some esz
 by_:tBytes P e=some bytes
 zero:∃it z,P.info? e=some it/\it.zero=some z/\z.cells.size=esz
theorem ElemT.info{t e:TypeId}{esz bytes:Nat}(h:ElemT P t e esz bytes):∃it z,P.info? e=some it/\it.zero=some z/\it.size=esz/\it.bytes=bytes/\z.cells.size=esz:=by obtain⟨it,z,h1,h2,h5⟩:=h.zero;have h3:=h.sz;have h4:=h.by_;unfold tSize at h3;unfold tBytes at h4;rw[h1]at h3 h4;exact⟨it,z,h1,h2,by simpa using h3,by simpa using h4,h5⟩
section
variable{t u e e' ty:TypeId}{esz bytes:Nat}
theorem jQ(hT:ElemT P t e esz bytes)(hu:P.underlying u=some (.slice e')){ts:List TypeId}{b:Option Addr}{sLen sCap n:Nat}{x':Value}{vals:List Value}{w':World}(hlen:(Builtin.lenOf x').run P w=.ok n w)(hcells:(Builtin.firstCells esz n x').run P w=.ok vals.toArray w)(hroom:sLen+n<=sCap)(hst:∀a,b=some a->(storeCells (a.add (sLen*esz)) vals).run P w=.ok () w')(hnone:b=none->w'=w):(Builtin.append_ (t::u::ts).toArray ty #[.slice b sLen sCap,x']).run P w=.ok (.slice b (sLen+n) sCap) w':=by
 unfold Builtin.append_;simp only[List.getElem?_toArray,List.getElem?_cons_zero,List.getElem?_cons_succ];cases b with
 |none=>have:=hnone rfl;subst this;simp[run_underlying hT.el,run_underlying hu,bs hT.sz,hlen,hroom,hcells]
 |some a=>have:=hst a rfl;simp[run_underlying hT.el,run_underlying hu,bs hT.sz,hlen,hroom,hcells,this]
theorem jR(hT:ElemT P t e esz bytes)(hu:P.underlying u=some (.slice e')){ts:List TypeId}{b:Option Addr}{sLen sCap n:Nat}{x':Value}{vals old:List Value}(hlen:(Builtin.lenOf x').run P w=.ok n w)(hcells:(Builtin.firstCells esz n x').run P w.drew=.ok vals.toArray w.drew)(hold:(Builtin.firstCells esz sLen (.slice b sLen sCap)).run P w.drew=.ok old.toArray w.drew)(hroom:¬sLen+n<=sCap)(hsm:small (sLen+n) bytes=true) :
 ∃(newCap:Nat) (rest:Array Value),sLen+n<=newCap/\rest.size=(newCap-(sLen+n))*esz/\
  (Builtin.append_ (t::u::ts).toArray ty #[.slice b sLen sCap,x']).run P w=.ok (.slice (some ⟨w.heap.size,0,none⟩) (sLen+n) newCap) (w.drew.alloc (.cells (old.toArray++vals.toArray++rest) e)):=by
 obtain⟨it,z,h1,h2,h3,h4,h5⟩:=hT.info;obtain⟨s1,s2,s3⟩:=jN hsm
 have hn:Builtin.nextslicecap (sLen+n) sCap*it.bytes<=2 ^ 48:=by
  have hb:=tQ (need:=sLen+n) (cap:=sCap) (by omega);rw[h4]
  calc Builtin.nextslicecap (sLen+n) sCap*bytes<=(2*(sLen+n)+200)*bytes:=Nat.mul_le_mul_right _ hb
   _=2*((sLen+n)*bytes)+200*bytes:=by rw[Nat.add_mul,Nat.mul_assoc]
   _<=2 ^ 48:=by omega
 refine⟨(sLen+n)+w.tape w.drawn (.appendCap (sLen+n) sCap e)%(2 ^ 63-(sLen+n)),Builtin.zeroCells z.cells ((sLen+n)+w.tape w.drawn (.appendCap (sLen+n) sCap e)%(2 ^ 63-(sLen+n))-(sLen+n)),by omega,?_,?_⟩
 .simp[Builtin.zeroCells,h5]
 .unfold Builtin.append_;simp only[List.getElem?_toArray,List.getElem?_cons_zero,List.getElem?_cons_succ];simp only[Sem.run_bind,run_underlying hT.el,run_underlying hu,Result.andThen_ok,bs hT.sz,Sem.run_pure,Bool.false_eq_true,if_false,hlen,if_neg hroom,typeInfo,run_program,h1]
  have hmax:¬(((sLen+n:Nat):Int)>IntKind.i64.max/\(False\/it.bytes=0)):=by
   have:IntKind.i64.max=9223372036854775807:=by decide
   rw[this];omega
  have hn':¬Builtin.nextslicecap (sLen+n) sCap*it.bytes>2 ^ 48:=by omega
  rw[if_neg hmax];simp only[Sem.run_bind,run_program,h1,Result.andThen_ok,Sem.run_pure];rw[if_neg hn'];simp only[Sem.run_bind,run_choose,Question.forced,Bool.false_eq_true,if_false,World.drew_eq,Result.andThen_ok,run_program,h1,Sem.run_pure,run_askRoom,hold,hcells,Bool.not_false,if_true,zeroValue,typeInfo,h2,newRow,run_newObj,World.alloc_eq,Question.cut];rfl
end
theorem HR.drop(hr:HR P ρ ω H w)(id:Pth):Step P ρ ω H w ρ (H.set id .dead) w where
 sub:=.refl _
 hr:={
  ok:=λq=>by
   by_cases he:id=q
   .subst he;rw[aJ];trivial
   .rw[af he];exact hr.ok q
  inj:=λa b ia ib hoa hlb hab ha hb=>by
   have h1:id≠a:=λhe=>by subst he;rw[aJ]at hoa;cases hoa
   have h2:id≠b:=λhe=>by subst he;rw[aJ]at hlb;cases hlb
   rw[af h1]at hoa;rw[af h2]at hlb;exact hr.inj a b ia ib hoa hlb hab ha hb
  fresh:=hr.fresh
  num:=λb c h=>⟨(hr.num b c h).1,λa ia hoa ha=>by
   have h1:id≠a:=λhe=>by subst he;rw[aJ]at hoa;cases hoa
   rw[af h1]at hoa
   exact(hr.num b c h).2 a ia hoa ha⟩}
 idle:=λq _ h=>by
  by_cases he:id=q
  .subst he;rw[aJ]
  .rw[af he];exact h
 nums:=λ_ _ h=>.inl h
 os:=rfl
 tape:=rfl
 output:=rfl
 size:=Nat.le_refl _
 keep:=λ_ _ _=>rfl
 al:=λb _ hi=>by
  obtain⟨a,ia,ho,ha,rfl⟩:=hi;have h1:id≠a:=λhe=>by subst he;rw[aJ]at ho;cases ho
  rw[af h1]at ho;exact⟨a,ia,ho,ha,rfl⟩
 imgo:=λb _ hi=>by
  obtain⟨a,ia,ho,ha,rfl⟩:=hi;have h1:id≠a:=λhe=>by subst he;rw[aJ]at ho;cases ho
  rw[af h1]at ho;exact⟨a,ia,ho,ha,rfl⟩
 next:=Nat.le_refl _
 dom:=λ_ _ h _=>h
theorem HR.move(hr:HR P ρ ω H w){id:Pth}{i i':BI}{o z:AObj}{w':World}(hi:ρ id=some i)(hown:owned (H.m.get .dead id)=true)(hb:i'.blk=i.blk)(hos:w'.os=w.os)(htape:w'.tape=w.tape)(hout:w'.output=w.output)(hsize:w'.heap.size=w.heap.size)(hother:∀b,b≠i.blk->w'.heap[b]?=w.heap[b]?)(hobj:ObjOk P (ext ρ H.next i') ω w' H.next o)(hzl:live z=false)(hz:ObjOk P (ext ρ H.next i') ω w' id z):Step P ρ ω H w (ext ρ H.next i') ((H.set id z).add o) w':=by
 have hnid:H.next≠id:=mB hr hi
 have hzo:owned z=false:=by
  cases h:owned z with
  |false=>rfl
  |true=>rw[aj h]at hzl;cases hzl
 have get_next:((H.set id z).add o).m.get .dead H.next=o:=bZ (H:=H.set id z) o
 have get_id:((H.set id z).add o).m.get .dead id=z:=by rw[show((H.set id z).add o).m.get .dead id=(H.set id z).m.get .dead id from aB (H:=H.set id z) hnid o,aJ]
 have get_other:∀q,q≠H.next->q≠id->((H.set id z).add o).m.get .dead q=H.m.get .dead q:=λq h1 h2=>by rw[show((H.set id z).add o).m.get .dead q=(H.set id z).m.get .dead q from aB (H:=H.set id z) (Ne.symm h1) o,af (Ne.symm h2)]
 exact {
  sub:=bh hr i'
  idle:=λq hl h=>by rw[get_other q (λe=>by subst e;omega) (λe=>by subst e;rw[h]at hown;cases hown)];exact h
  nums:=λ_ _ h=>.inl h
  hr:={
   ok:=λq=>by
    by_cases h1:q=H.next
    .subst h1;rw[get_next];exact hobj
    .by_cases h2:q=id
     .subst h2;rw[get_id];exact hz
     .rw[get_other q h1 h2];by_cases hlv:live (H.m.get .dead q)=true
      .exact ObjOk.mono (bh hr i') (λj hj=>hother _ (Ne.symm (hr.inj id q i j hown hlv (Ne.symm h2) hi hj))) (hr.ok q)
      .exact(hr.ok q).idle hlv (bh hr i')
   inj:=λa b ia ib hoa hlb hab ha hb'=>by
    have na:a≠id:=λe=>by subst e;rw[get_id,hzo]at hoa;cases hoa
    have nb:b≠id:=λe=>by subst e;rw[get_id,hzl]at hlb;cases hlb
    by_cases h1:a=H.next
    .subst h1;rw[get_other b (Ne.symm hab) nb]at hlb;rw[ad]at ha;cases ha;rw[ak _ _ (Ne.symm hab)]at hb';rw[hb];exact hr.inj id b i ib hown hlb (Ne.symm nb) hi hb'
    .rw[get_other a h1 na]at hoa;rw[ak _ _ h1]at ha;by_cases h2:b=H.next
     .subst h2;rw[ad]at hb';cases hb';rw[hb];exact hr.inj a id ia i hoa (aj hown) na ha hi
     .rw[get_other b h2 nb]at hlb;rw[ak _ _ h2]at hb';exact hr.inj a b ia ib hoa hlb hab ha hb'
   num:=λb c h=>by
    have h:ρ.num b=some c:=h;obtain⟨⟨T,hT⟩,h2⟩:=hr.num b c h;refine⟨⟨T,(hother b λe=>h2 id i hown hi e.symm).trans hT⟩,λa ia hoa ha=>?_⟩;have na:a≠id:=λe=>by subst e;rw[get_id,hzo]at hoa;cases hoa
    by_cases h1:a=H.next
    .subst h1;rw[ad]at ha;cases ha;rw[hb];exact h2 id i hown hi
    .rw[get_other a h1 na]at hoa;rw[ak _ _ h1]at ha;exact h2 a ia hoa ha
   fresh:=λq j hj=>by
    have hn:((H.set id z).add o).next.toNat=H.next.toNat+1:=Pth.ab _
    rw[hn];by_cases e:q=H.next
    .subst e;omega
    .rw[ak _ _ e]at hj;have:=hr.fresh q j hj
     omega}
  os:=hos
  tape:=htape
  output:=hout
  size:=by omega
  keep:=λb _ hn=>hother b λe=>hn ⟨id,i,hown,hi,e.symm⟩
  al:=λb _ hi'=>by
   obtain⟨a,ia,ho,ha,rfl⟩:=hi';have na:a≠id:=λe=>by subst e;rw[get_id,hzl]at ho;cases ho
   by_cases h1:a=H.next
   .subst h1;rw[ad]at ha;cases ha;exact⟨id,i,aj hown,hi,hb.symm⟩
   .rw[get_other a h1 na]at ho;rw[ak _ _ h1]at ha;exact⟨a,ia,ho,ha,rfl⟩
  imgo:=λb _ hi'=>by
   obtain⟨a,ia,ho,ha,rfl⟩:=hi';have na:a≠id:=λe=>by subst e;rw[get_id,hzo]at ho;cases ho
   by_cases h1:a=H.next
   .subst h1;rw[ad]at ha;cases ha;exact⟨id,i,hown,hi,hb.symm⟩
   .rw[get_other a h1 na]at ho;rw[ak _ _ h1]at ha;exact⟨a,ia,ho,ha,rfl⟩
  next:=by have:((H.set id z).add o).next.toNat=H.next.toNat+1:=Pth.ab _;omega
  dom:=λq j hj hl=>by rw[ak _ _ (λe=>by subst e;omega)]at hj;exact hj}
theorem HR.freeze(hr:HR P ρ ω H w){id:Pth}{i:BI}{c:Array Value}{T:TypeId}{z:AObj}(hi:ρ id=some i)(hown:owned (H.m.get .dead id)=true)(hc:w.heap[i.blk]?=some (.cells c T (0,0)))(hzl:live z=false)(hz:∀ρ':Rho,Sub ρ ρ'->ρ'.num i.blk=some c->ObjOk P ρ' ω w id z):∃ρ':Rho,ρ'.o=ρ.o/\Step P ρ ω H w ρ' (H.set id z) w:=by
 have hzo:owned z=false:=by
  cases h:owned z with
  |false=>rfl
  |true=>rw[aj h]at hzl;cases hzl
 have hnone:ρ.num i.blk=none:=by
  cases h:ρ.num i.blk with
  |none=>rfl
  |some c0=>exact absurd rfl ((hr.num _ _ h).2 id i hown hi)
 let ρ':Rho:=⟨ρ.o,λb=>if b=i.blk then some c else ρ.num b⟩
 have hsub:Sub ρ ρ':=⟨λ_ _ h=>h,λb c' h=>by
  show(if b=i.blk then some c else ρ.num b)=some c'
  rw[if_neg (λe=>by subst e;rw[hnone]at h;cases h)];exact h⟩
 have hself:ρ'.num i.blk=some c:=if_pos rfl
 have get_ow:∀a,owned ((H.set id z).m.get .dead a)=true->id≠a/\owned (H.m.get .dead a)=true:=λa h=>by
  have h1:id≠a:=λhe=>by subst he;rw[aJ,hzo]at h;cases h
  rw[af h1]at h;exact⟨h1,h⟩
 have get_lv:∀a,live ((H.set id z).m.get .dead a)=true->id≠a/\live (H.m.get .dead a)=true:=λa h=>by
  have h1:id≠a:=λhe=>by subst he;rw[aJ,hzl]at h;cases h
  rw[af h1]at h;exact⟨h1,h⟩
 refine⟨ρ',rfl,?_⟩
 exact {
  sub:=hsub
  hr:={
   ok:=λq=>by
    by_cases he:id=q
    .subst he;rw[aJ];exact hz ρ' hsub hself
    .rw[af he];exact ObjOk.mono hsub (λ_ _=>rfl) (hr.ok q)
   inj:=λa b ia ib hoa hlb hab ha hb=>hr.inj a b ia ib (get_ow a hoa).2 (get_lv b hlb).2 hab ha hb
   fresh:=hr.fresh
   num:=λb c' h=>by
    have h:(if b=i.blk then some c else ρ.num b)=some c':=h;by_cases e:b=i.blk
    .rw[if_pos e]at h;cases h;subst e;exact⟨⟨T,hc⟩,λa ia hoa ha=>Ne.symm (hr.inj id a i ia hown (aj (get_ow a hoa).2) (get_ow a hoa).1 hi ha)⟩
    .rw[if_neg e]at h
     exact⟨(hr.num b c' h).1,λa ia hoa ha=>(hr.num b c' h).2 a ia (get_ow a hoa).2 ha⟩}
  idle:=λq _ h=>by
   have h1:id≠q:=λhe=>by subst he;rw[h]at hown;cases hown
   rw[af h1];exact h
  nums:=λb c' h=>by
   have h:(if b=i.blk then some c else ρ.num b)=some c':=h;by_cases e:b=i.blk
   .subst e;exact .inr (.inr ⟨id,i,hown,hi,rfl⟩)
   .rw[if_neg e]at h;exact .inl h
  os:=rfl
  tape:=rfl
  output:=rfl
  size:=Nat.le_refl _
  keep:=λ_ _ _=>rfl
  al:=λb _ ⟨a,ia,ho,ha,e⟩=>⟨a,ia,(get_lv a ho).2,ha,e⟩
  imgo:=λb _ ⟨a,ia,ho,ha,e⟩=>⟨a,ia,(get_ow a ho).2,ha,e⟩
  next:=Nat.le_refl _
  dom:=λ_ _ h _=>h}
theorem jS(hr:HR P ρ ω H w){cells:Array Value}{T:TypeId}{esz n lim:Nat}{d:List AVal}{els:T8 (List AVal)}(ha:ArrOk ρ ω cells ⟨w.heap.size,0,lim⟩ esz n d els):Step P ρ ω H w (ext ρ H.next ⟨w.heap.size,0,lim⟩) (H.add (.arr esz n d els)) (w.alloc (.cells cells T)):=by refine hr.add (i:=⟨w.heap.size,0,lim⟩) rfl ⟨_,cells,T,ad _ _ _,?_,ha.mono (bh hr _)⟩;show(w.heap.push _)[w.heap.size]?=_;simp
theorem jT{esz len b lim:Nat}(hp:0<esz){d:List AVal}{els0:T8 (List AVal)}{old:List Value}(hol:old.length=len*esz)(hold:∀m,m<len->∃us,All2 (VR ρ ω) (elem m d els0) us/\us.length=esz/\(∀u∈us,u.oneCell'=true)/\∀k u,us[k]?=some u->old[m*esz+k]?=some u){new:List (List AVal)}{vals:List Value}(hn:ElsOk ρ ω esz new vals){rest:Array Value}(hlim:(len+new.length)*esz<=lim)(hsz:lim<=(old.toArray++vals.toArray++rest).size):ArrOk ρ ω (old.toArray++vals.toArray++rest) ⟨b,0,lim⟩ esz (len+new.length) d (putEls len new els0):=by
 have hvl:=hn.len
 have get:∀q,(old.toArray++vals.toArray++rest)[q]?=if q<len*esz then old[q]? else if q<len*esz+new.length*esz then vals[q-len*esz]? else rest[q-(len*esz+new.length*esz)]?:=by
  intro q;by_cases h1:q<len*esz
  .rw[if_pos h1,Array.getElem?_append_left (by simp;omega),Array.getElem?_append_left (by simp;omega)];simp
  .rw[if_neg h1];by_cases h2:q<len*esz+new.length*esz
   .rw[if_pos h2,Array.getElem?_append_left (by simp;omega),Array.getElem?_append_right (by simp;omega)];simp[hol]
   .rw[if_neg h2,Array.getElem?_append_right (by simp;omega)];simp[hol,hvl]
 refine⟨hlim,by show 0+lim<=_;omega,λm hm=>?_⟩;rw[c_];by_cases h1:len<=m
 .rw[if_pos h1];have hml:m-len<new.length:=by omega
  rw[List.getElem?_eq_getElem hml];obtain⟨us,u1,u2,u3,u4⟩:=hn.els _ _ (List.getElem?_eq_getElem hml);simp only;rw[bE (by intro e;rw[e]at u1;have:=u1.length;simp at this;omega)];refine⟨us,u1,u2,u3,λk u hk=>?_⟩;have hkl:k<esz:=by have:=(List.getElem?_eq_some_iff.1 hk).1;omega
  have e1:m*esz=len*esz+(m-len)*esz:=by rw[<-Nat.add_mul];congr 1;omega
  have e2:(m-len+1)*esz<=new.length*esz:=Nat.mul_le_mul_right _ hml;rw[Nat.add_mul]at e2;show(old.toArray++vals.toArray++rest)[0+m*esz+k]?=some u;rw[get,if_neg (by omega),if_pos (by omega),<-u4 k u hk];congr 1;omega
 .rw[if_neg h1];obtain⟨us,u1,u2,u3,u4⟩:=hold m (by omega);refine⟨us,u1,u2,u3,λk u hk=>?_⟩;have hkl:k<esz:=by have:=(List.getElem?_eq_some_iff.1 hk).1;omega
  have e2:(m+1)*esz<=len*esz:=Nat.mul_le_mul_right _ (by omega);rw[Nat.add_mul]at e2;show(old.toArray++vals.toArray++rest)[0+m*esz+k]?=some u;rw[get,if_pos (by omega),<-u4 k u hk];congr 1;omega
end Go.Ex
namespace Go.Ex
open Go
variable{P:Program}{ρ:Rho}{ω:Nat->Value}{H:AH}{w:World}
variable{t u e e' ty:TypeId}{esz bytes:Nat}
theorem mN{d:List AVal}{els:T8 (List AVal)}{j0 len:Nat}{old:List Value}(h:ElsOk ρ ω esz (elemsFrom d els j0 len) old):∀m,m<len->∃us,All2 (VR ρ ω) (elem (j0+m) d els) us/\us.length=esz/\(∀u∈us,u.oneCell'=true)/\∀k u,us[k]?=some u->old[m*esz+k]?=some u:=λm hm=>h.els m _ (dY d els j0 len m hm)
theorem mO(hp:0<esz){d:List AVal}{els:T8 (List AVal)}{off len b lim:Nat}(hoff:off%esz=0){old:List Value}(hold:ElsOk ρ ω esz (elemsFrom d els (off/esz) len) old){new:List (List AVal)}{vals:List Value}(hn:ElsOk ρ ω esz new vals){rest:Array Value}(hlim:(len+new.length)*esz<=lim)(hsz:lim<=(old.toArray++vals.toArray++rest).size):∃els',grown esz d els off len new=.arr esz (len+new.length) d els'/\ArrOk ρ ω (old.toArray++vals.toArray++rest) ⟨b,0,lim⟩ esz (len+new.length) d els':=by
 have hol:old.length=len*esz:=by have:=hold.len;rw[bu]at this;exact this
 unfold grown;rw[cZ];cases h0:Nat.beq off 0 with
 |true=>obtain rfl:=Nat.eq_of_beq_eq_true h0;refine⟨_,rfl,jT hp hol (λm hm=>?_) hn hlim hsz⟩;have:=mN hold m hm;simpa using this
 |false=>refine⟨_,rfl,jT hp hol (λm hm=>?_) hn hlim hsz⟩;obtain⟨us,u1,u2,u3,u4⟩:=mN hold m hm;refine⟨us,?_,u2,u3,u4⟩;rw[c_,if_pos (Nat.zero_le _)];have hg:(elemsFrom d els (Nat.div off esz) len)[m-0]?=some (elem (off/esz+m) d els):=dY d els (off/esz) len m hm;rw[hg];simp only;rw[bE (by intro e;rw[e]at u1;have:=u1.length;simp at this;omega)];exact u1
theorem jU{old vals:List Value}{rest:Array Value}{sLen n newCap:Nat}(h1:old.length=sLen*esz)(h2:vals.length=n*esz)(h3:rest.size=(newCap-(sLen+n))*esz)(hc:sLen+n<=newCap):newCap*esz<=(old.toArray++vals.toArray++rest).size:=by
 simp only[Array.size_append,List.size_toArray,h1,h2,h3];have:newCap*esz=(sLen+n)*esz+(newCap-(sLen+n))*esz:=by rw[<-Nat.add_mul];congr 1;omega
 rw[this,Nat.add_mul];omega
theorem mR{esz len b base lim:Nat}(hp:0<esz){d:List AVal}{els0:T8 (List AVal)}{c:Array Value}(hold:∀m,m<len->∃us,All2 (VR ρ ω) (elem m d els0) us/\us.length=esz/\(∀u∈us,u.oneCell'=true)/\∀k u,us[k]?=some u->c[base+m*esz+k]?=some u){new:List (List AVal)}{vals:List Value}(hn:ElsOk ρ ω esz new vals)(hlim:(len+new.length)*esz<=lim)(hsz:base+lim<=c.size):ArrOk ρ ω (splice c (base+len*esz) vals) ⟨b,base,lim⟩ esz (len+new.length) d (putEls len new els0):=by
 have hvl:=hn.len;rw[Nat.add_mul]at hlim;have hsp:base+len*esz+vals.length<=c.size:=by omega
 refine⟨by rw[Nat.add_mul];exact hlim,by rw[eT hsp];exact hsz,λm hm=>?_⟩;rw[c_];by_cases h1:len<=m
 .rw[if_pos h1];have hml:m-len<new.length:=by omega
  rw[List.getElem?_eq_getElem hml];obtain⟨us,u1,u2,u3,u4⟩:=hn.els _ _ (List.getElem?_eq_getElem hml);simp only;rw[bE (by intro e;rw[e]at u1;have:=u1.length;simp at this;omega)];refine⟨us,u1,u2,u3,λk u hk=>?_⟩;have hkl:k<esz:=by have:=(List.getElem?_eq_some_iff.1 hk).1;omega
  have e1:m*esz=len*esz+(m-len)*esz:=by rw[<-Nat.add_mul];congr 1;omega
  have e2:(m-len+1)*esz<=new.length*esz:=Nat.mul_le_mul_right _ hml;rw[Nat.add_mul]at e2;show(splice c (base+len*esz) vals)[base+m*esz+k]?=some u;rw[bF hsp,if_neg (by omega),if_pos (by omega),<-u4 k u hk];congr 1;omega
 .rw[if_neg h1];obtain⟨us,u1,u2,u3,u4⟩:=hold m (by omega);refine⟨us,u1,u2,u3,λk u hk=>?_⟩;have hkl:k<esz:=by have:=(List.getElem?_eq_some_iff.1 hk).1;omega
  have e2:(m+1)*esz<=len*esz:=Nat.mul_le_mul_right _ (by omega);rw[Nat.add_mul]at e2;show(splice c (base+len*esz) vals)[base+m*esz+k]?=some u;rw[bF hsp,if_pos (by omega)];exact u4 k u hk
theorem tR(hp:0<esz){d:List AVal}{els:T8 (List AVal)}{off len m:Nat}{i:BI}{c:Array Value}(ha:ArrOk ρ ω c i esz m d els)(q1:off%esz=0)(q2:off/esz+len<=m){new:List (List AVal)}{vals:List Value}(hn:ElsOk ρ ω esz new vals)(hfit:off+(len*esz+new.length*esz)<=i.lim):∃els',grown esz d els off len new=.arr esz (len+new.length) d els'/\ArrOk ρ ω (splice c (i.base+off+len*esz) vals) ⟨i.blk,i.base+off,i.lim-off⟩ esz (len+new.length) d els':=by
 have hoff:off/esz*esz=off:=by have:=Nat.div_add_mod off esz;rw[q1,Nat.mul_comm]at this;omega
 have hsz:=ha.size;have hold:∀q,q<len->∃us,All2 (VR ρ ω) (elem (off/esz+q) d els) us/\us.length=esz/\(∀u∈us,u.oneCell'=true)/\∀k u,us[k]?=some u->c[i.base+off+q*esz+k]?=some u:=by intro q hq;obtain⟨us,u1,u2,u3,u4⟩:=ha.els (off/esz+q) (by omega);refine⟨us,u1,u2,u3,λk u hk=>?_⟩;rw[<-u4 k u hk];congr 1;rw[Nat.add_mul,hoff];omega
 unfold grown;rw[cZ];cases h0:Nat.beq off 0 with
 |true=>obtain rfl:=Nat.eq_of_beq_eq_true h0;refine⟨_,rfl,mR hp (λq hq=>?_) hn (by rw[Nat.add_mul];omega) (by omega)⟩;have:=hold q hq;simpa using this
 |false=>refine⟨_,rfl,mR hp (λq hq=>?_) hn (by rw[Nat.add_mul];omega) (by omega)⟩;obtain⟨us,u1,u2,u3,u4⟩:=hold q hq;refine⟨us,?_,u2,u3,u4⟩;rw[c_,if_pos (Nat.zero_le _)];have hg:(elemsFrom d els (Nat.div off esz) len)[q-0]?=some (elem (off/esz+q) d els):=dY d els (off/esz) len q hq;rw[hg];simp only;rw[bE (by intro e;rw[e]at u1;have:=u1.length;simp at this;omega)];exact u1
theorem tT(hr:HR P ρ ω H w)(hT:ElemT P t e esz bytes)(hp:0<esz)(hu:P.underlying u=some (.slice e')){ts:List TypeId}{s x v:AVal}{s' x':Value}(hs:VR ρ ω s s')(hx:VR ρ ω x x'){new:List (List AVal)}(hel:elemsOf H esz x=some new){H':AH}(h:appendV H esz bytes s new=.ok v H'):∃ρ' v' w',(Builtin.append_ (t::u::ts).toArray ty #[s',x']).run P w=.ok v' w'/\VR ρ' ω v v'/\Step P ρ ω H w ρ' H' w':=by
 obtain⟨vals2,hn,hlen,hcellsA⟩:=tP hr hp hx hel;have hcells:=hcellsA w rfl;have hcells2:=hcellsA w.drew rfl;unfold appendV at h;simp only[cZ]at h;cases hz:Nat.beq new.length 0 with
 |true=>
  rw[hz]at h;simp only[cond]at h;have hn0:new.length=0:=Nat.eq_of_beq_eq_true hz;have hv0:vals2=[]:=by have:=hn.len;rw[hn0]at this;simpa using this
  have idle:∀(b:Option Addr) (n c:Nat),n<=c->s'=.slice b n c->v=s->H'=H->∃ρ' v' w',(Builtin.append_ (t::u::ts).toArray ty #[s',x']).run P w=.ok v' w'/\VR ρ' ω v v'/\Step P ρ ω H w ρ' H' w':=by
   intro b n c hle e1 e2 e3;subst e1 e2 e3;refine⟨ρ,_,w,jQ hT hu (w':=w) hlen hcells (by omega) (λa _=>?_) (λ_=>rfl),?_,.refl hr⟩
   .rw[hv0];rfl
   .rw[hn0];exact hs
  cases hs with
  |snil=>simp only[R.ok.injEq]at h;exact idle _ _ _ (Nat.le_refl _) rfl h.1.symm h.2.symm
  |se a c=>simp only[R.ok.injEq]at h;exact idle _ _ _ (Nat.zero_le _) rfl h.1.symm h.2.symm
  |sg id off len ez cap i hi hl hlim=>simp only[R.ok.injEq]at h;exact idle _ _ _ hl rfl h.1.symm h.2.symm
  |sl id off len cap i hi=>
   simp only at h;cases hc:Nat.ble len cap with
   |false=>rw[hc]at h;cases h
   |true=>rw[hc]at h;simp only[R.ok.injEq]at h;exact idle _ _ _ (Nat.le_of_ble_eq_true hc) rfl h.1.symm h.2.symm
  |_=>cases h
 |false=>
  rw[hz]at h;simp only[cond]at h
  have hez:Nat.beq esz 0=false:=by
   cases hq:Nat.beq esz 0 with
   |false=>rfl
   |true=>have:=Nat.eq_of_beq_eq_true hq;omega
  rw[hez]at h;simp only at h
  have hnpos:0<new.length:=by
   rcases Nat.eq_zero_or_pos new.length with e0|e0
   .rw[e0]at hz;cases hz
   .exact e0
  cases hs with
  |snil=>
   simp only at h;cases hsm:small new.length bytes with
   |false=>rw[hsm]at h;cases h
   |true=>
    rw[hsm]at h;simp only[R.ok.injEq]at h;obtain⟨rfl,rfl⟩:=h;obtain⟨newCap,rest,c1,c2,c3⟩:=jR (ty:=ty) (ts:=ts) (b:=none) (sLen:=0) (sCap:=0) (old:=[]) hT hu hlen hcells2 rfl (by omega) (by rw[Nat.zero_add];exact hsm);have hsz:=jU (esz:=esz) (old:=[]) (sLen:=0) (by simp) hn.len c2 c1;have hok:ArrOk ρ ω (([]:List Value).toArray++vals2.toArray++rest) ⟨w.heap.size,0,newCap*esz⟩ esz (0+new.length) [] (putEls 0 new .nil):=jT hp (by simp) (λm hm=>absurd hm (Nat.not_lt_zero _)) hn (Nat.mul_le_mul_right _ c1) hsz;rw[Nat.zero_add]at hok;have hst:=jS (w:=w.drew) (T:=e) hr.drew (lim:=newCap*esz) hok;refine⟨_,_,_,c3,?_,hst.jO⟩;rw[Nat.zero_add];have:=VR.sg (ρ:=ext ρ H.next ⟨w.heap.size,0,newCap*esz⟩) (ω:=ω) H.next 0 new.length esz newCap ⟨w.heap.size,0,newCap*esz⟩ (ad _ _ _) (by omega) (by simp)
    exact this
  |sl id off len cap i hi=>
   simp only at h;cases ho:H.m.get .dead id with
   |arr esz' m d els=>
    rw[ho]at h;simp only at h;cases hq:(Nat.beq esz esz'&&(Nat.beq (Nat.mod off esz) 0&&Nat.ble (Nat.add (Nat.div off esz) len) m))with
    |false=>rw[hq]at h;cases h
    |true=>
     rw[hq]at h;simp only at h;rw[Bool.and_eq_true,Bool.and_eq_true]at hq;obtain rfl:=Nat.eq_of_beq_eq_true hq.1;have q1:off%esz=0:=Nat.eq_of_beq_eq_true hq.2.1;have q2:off/esz+len<=m:=Nat.le_of_ble_eq_true hq.2.2;have hok:=hr.ok id;rw[ho]at hok;obtain⟨i',c,T,hi',hc,ha⟩:=hok;rw[hi]at hi';cases hi';have hoff:off/esz*esz=off:=by have:=Nat.div_add_mod off esz;rw[q1,Nat.mul_comm]at this;omega
     cases hroom:Nat.ble (Nat.add len new.length) cap with
     |true=>
      rw[hroom]at h;simp only at h;have hroom:=Nat.le_of_ble_eq_true hroom;cases hfit:Nat.ble (Nat.add (Nat.add (Nat.div off esz) len) new.length) m with
      |false=>rw[hfit]at h;cases h
      |true=>
       rw[hfit]at h;simp only[R.ok.injEq]at h;obtain⟨rfl,rfl⟩:=h;have hfit:off/esz+len+new.length<=m:=Nat.le_of_ble_eq_true hfit;have hput:=ha.putEls hp hn hfit;have e1:i.base+(off/esz+len)*esz=i.base+off+len*esz:=by rw[Nat.add_mul,hoff];omega
       have hvl:=hn.len;have hmul:(off/esz+len+new.length)*esz<=m*esz:=Nat.mul_le_mul_right _ hfit;rw[Nat.add_mul,Nat.add_mul,hoff]at hmul;have hl:=ha.lim;have hsz:=ha.size;have hstore:=run_storeCells_at (P:=P) i.blk (i.base+off+len*esz) T vals2 0 c w hc (by omega) hn.one;simp only[Nat.add_zero]at hstore;have hsp:i.base+off+len*esz+vals2.length<=c.size:=by omega
       refine⟨ρ,_,w.setRow i.blk (splice c (i.base+off+len*esz) vals2),jQ hT hu hlen hcells hroom (λa ea=>?_) (λe=>by cases e),.sl id off _ cap i hi,?_⟩
       .cases ea;rw[bO];exact hstore
       .refine hr.set hi (by rw[ho];rfl) rfl rfl rfl (setRow_size _ _ _) (λb hb=>setRow_other w i.blk b _ hb) ⟨i,_,T,hi,setRow_heap w i.blk c _ T (0,0) hc,?_⟩;rw[<-e1];exact hput
     |false=>
      rw[hroom]at h;simp only at h;have hnr:¬len+new.length<=cap:=by intro hle;have:Nat.ble (Nat.add len new.length) cap=true:=Nat.ble_eq_true_of_le hle;rw[this]at hroom;cases hroom
      cases hsm:small (Nat.add len new.length) bytes with
      |false=>rw[hsm]at h;cases h
      |true=>
       rw[hsm]at h;simp only[R.ok.injEq]at h;obtain⟨rfl,rfl⟩:=h;obtain⟨old,ho1,ho2⟩:=ha.elems hp q1 q2;have hol:old.length=len*esz:=by have:=ho1.len;rw[bu]at this;exact this
       have hold:(Builtin.firstCells esz len (.slice (some ⟨i.blk,i.base+off,none⟩) len cap)).run P w.drew=.ok old.toArray w.drew:=by show(loadCells ⟨i.blk,i.base+off,none⟩ (len*esz)).run P w.drew=_;rw[<-hol];exact gi (w:=w.drew) hc ho2
       obtain⟨newCap,rest,c1,c2,c3⟩:=jR (ty:=ty) (ts:=ts) hT hu hlen hcells2 hold hnr hsm;obtain⟨els',hg,hok⟩:=mO (b:=w.heap.size) hp q1 ho1 hn (Nat.mul_le_mul_right esz c1) (jU hol hn.len c2 c1);have hst:=jS (w:=w.drew) (T:=e) hr.drew (lim:=newCap*esz) hok;refine⟨_,_,_,c3,?_,by rw[hg];exact hst.jO⟩;exact VR.sg (ρ:=ext ρ H.next ⟨w.heap.size,0,newCap*esz⟩) (ω:=ω) H.next 0 (len+new.length) esz newCap ⟨w.heap.size,0,newCap*esz⟩ (ad _ _ _) c1 (by simp)
   |ro _ _ _ _=>rw[ho]at h;cases h
   |dead=>rw[ho]at h;cases h
   |lp _ _ _ _ _=>rw[ho]at h;cases h
   |mp _=>rw[ho]at h;cases h
   |fwd _ _ _ _ _=>rw[ho]at h;cases h
  |sg id off len ez cap i hi hl hlim=>
   simp only at h;cases ho:H.m.get .dead id with
   |arr esz' m d els=>
    rw[ho]at h;simp only at h;cases hq:(Nat.beq esz esz'&&(Nat.beq esz ez&&(Nat.beq (Nat.mod off esz) 0&&(Nat.ble (Nat.add (Nat.div off esz) len) m&&small (Nat.add len new.length) bytes))))with
    |false=>rw[hq]at h;cases h
    |true=>
     rw[hq]at h;simp only[R.ok.injEq]at h;obtain⟨rfl,rfl⟩:=h;simp only[Bool.and_eq_true]at hq;obtain⟨hq1,hq2,hq3,hq4,hsm⟩:=hq;obtain rfl:=Nat.eq_of_beq_eq_true hq1;obtain rfl:=Nat.eq_of_beq_eq_true hq2;have q1:off%esz=0:=Nat.eq_of_beq_eq_true hq3;have q2:off/esz+len<=m:=Nat.le_of_ble_eq_true hq4;have hok:=hr.ok id;rw[ho]at hok;obtain⟨i',c,T,hi',hc,ha⟩:=hok;rw[hi]at hi';cases hi';obtain⟨old,ho1,ho2⟩:=ha.elems hp q1 q2;have hol:old.length=len*esz:=by have:=ho1.len;rw[bu]at this;exact this
     have hzl:live (bif Nat.beq off 0 then .fwd H.next esz m d els else .dead)=false:=by cases Nat.beq off 0<;>rfl
     by_cases hroom:len+new.length<=cap
     .
      have hvl:=hn.len;have hcap:(len+new.length)*esz<=cap*esz:=Nat.mul_le_mul_right _ hroom;rw[Nat.add_mul]at hcap;have hsz:=ha.size;have hstore:=run_storeCells_at (P:=P) i.blk (i.base+off+len*esz) T vals2 0 c w hc (by omega) hn.one;simp only[Nat.add_zero]at hstore;have hsp:i.base+off+len*esz+vals2.length<=c.size:=by omega
      have hobj:∃els',grown esz d els off len new=.arr esz (len+new.length) d els'/\ArrOk ρ ω (splice c (i.base+off+len*esz) vals2) ⟨i.blk,i.base+off,i.lim-off⟩ esz (len+new.length) d els':=tR hp ha q1 q2 hn (by omega);obtain⟨els',hg,hok'⟩:=hobj;refine⟨ext ρ H.next ⟨i.blk,i.base+off,i.lim-off⟩,_,w.setRow i.blk (splice c (i.base+off+len*esz) vals2),jQ hT hu hlen hcells hroom (λa ea=>?_) (λe=>by cases e),?_,?_⟩
      .cases ea;rw[bO];exact hstore
      .exact VR.sg (ρ:=ext ρ H.next ⟨i.blk,i.base+off,i.lim-off⟩) (ω:=ω) H.next 0 (len+new.length) esz cap ⟨i.blk,i.base+off,i.lim-off⟩ (ad _ _ _) hroom (by simp only[Nat.zero_add];omega)
      .refine hr.move (i':=⟨i.blk,i.base+off,i.lim-off⟩) hi (by rw[ho];rfl) rfl rfl rfl rfl (setRow_size _ _ _) (λb hb=>setRow_other w i.blk b _ hb) ?_ hzl ?_
       .rw[hg];exact⟨_,_,T,ad _ _ _,setRow_heap w i.blk c _ T (0,0) hc,hok'.mono (bh hr _)⟩
       .cases hz:Nat.beq off 0 with
        |false=>trivial
        |true=>have e0:off=0:=Nat.eq_of_beq_eq_true hz;exact⟨i,(bh hr _).get _ _ hi,.inl ⟨_,ad _ _ _,rfl,by show i.base+off=i.base;omega⟩⟩
     .have hold:(Builtin.firstCells esz len (.slice (some ⟨i.blk,i.base+off,none⟩) len cap)).run P w.drew=.ok old.toArray w.drew:=by
       show(loadCells ⟨i.blk,i.base+off,none⟩ (len*esz)).run P w.drew=_;rw[<-hol];exact gi (w:=w.drew) hc ho2
      obtain⟨newCap,rest,c1,c2,c3⟩:=jR (ty:=ty) (ts:=ts) hT hu hlen hcells2 hold hroom hsm;obtain⟨els',hg,hok'⟩:=mO (b:=w.heap.size) hp q1 ho1 hn (Nat.mul_le_mul_right esz c1) (jU hol hn.len c2 c1)
      obtain⟨ρ',_,hd⟩:=hr.drew.freeze (z:=bif Nat.beq off 0 then .fwd H.next esz m d els else .dead) hi (by rw[ho];rfl) hc hzl λρ' hs hn=>by
       cases hz:Nat.beq off 0 with
       |false=>trivial
       |true=>exact⟨i,hs.get _ _ hi,.inr ⟨c,hn,ha.mono hs⟩⟩
      have hst:=jS (w:=w.drew) (T:=e) hd.hr (lim:=newCap*esz) (hok'.mono hd.sub);refine⟨_,_,_,c3,?_,by rw[hg];exact(hd.trans hst).jO⟩;exact VR.sg (ρ:=ext ρ' H.next ⟨w.heap.size,0,newCap*esz⟩) (ω:=ω) H.next 0 (len+new.length) esz newCap ⟨w.heap.size,0,newCap*esz⟩ (ad _ _ _) c1 (by simp)
   |ro _ _ _ _=>rw[ho]at h;cases h
   |dead=>rw[ho]at h;cases h
   |lp _ _ _ _ _=>rw[ho]at h;cases h
   |mp _=>rw[ho]at h;cases h
   |fwd _ _ _ _ _=>rw[ho]at h;cases h
  |_=>cases h
end Go.Ex
namespace Go.Ex
open Go
variable{P:Program}{ρ:Rho}{ω:Nat->Value}{H:AH}{w:World}
variable{t e ty:TypeId}{esz:Nat}
theorem tU(n:Nat)(l:List (List AVal)):takeL n l=l.take n:=by
 induction n generalizing l with
 |zero=>simp[takeL]
 |succ n ih=>cases l with
  |nil=>rfl
  |cons a l=>simp only[takeL,ih,List.take_succ_cons]
theorem ElsOk.take{new:List (List AVal)}{vals:List Value}(h:ElsOk ρ ω esz new vals){n:Nat}(hn:n<=new.length):ElsOk ρ ω esz (new.take n) (vals.take (n*esz)) where
 len:=by have h1:=h.len;have:n*esz<=new.length*esz:=Nat.mul_le_mul_right _ hn;rw[List.length_take,List.length_take,Nat.min_eq_left hn];omega
 one:=λv hv=>h.one v (List.mem_of_mem_take hv)
 els:=λj cs hj=>by
  rw[List.getElem?_take]at hj;split at hj
  .rename_i hjn;obtain⟨us,u1,u2,u3,u4⟩:=h.els j cs hj;refine⟨us,u1,u2,u3,λk u hk=>?_⟩;have hkl:k<esz:=by have:=(List.getElem?_eq_some_iff.1 hk).1;omega
   have:(j+1)*esz<=n*esz:=Nat.mul_le_mul_right _ hjn;rw[Nat.add_mul]at this;rw[List.getElem?_take,if_pos (by omega)];exact u4 k u hk
  .cases hj
theorem mS(he:P.underlying t=some (.slice e))(hsz:tSize P e=some esz){ts:List TypeId}{b:Option Addr}{dl cap m:Nat}{x':Value}{vals:List Value}{w':World}(hlen:(Builtin.lenOf x').run P w=.ok m w)(hcells:(Builtin.firstCells esz (Nat.min m dl) x').run P w=.ok vals.toArray w)(hst:∀a,b=some a->(storeCells a vals).run P w=.ok () w')(hnone:b=none->w'=w):(Builtin.copy_ (t::ts).toArray ty #[.slice b dl cap,x']).run P w=.ok (goInt (Nat.min m dl)) w':=by
 unfold Builtin.copy_;simp only[List.getElem?_toArray,List.getElem?_cons_zero,List.getElem?_cons_succ];cases b with
 |none=>have:=hnone rfl;subst this;simp[run_underlying he,bs hsz,hlen,hcells]
 |some a=>have:=hst a rfl;simp[run_underlying he,bs hsz,hlen,hcells,this]
theorem tV(hr:HR P ρ ω H w)(he:P.underlying t=some (.slice e))(hsz:tSize P e=some esz)(hp:0<esz){ts:List TypeId}{d x v:AVal}{d' x':Value}(hd:VR ρ ω d d')(hx:VR ρ ω x x'){new:List (List AVal)}(hel:elemsOf H esz x=some new){H':AH}(h:copyV H esz d new=.ok v H'):∃v' w',(Builtin.copy_ (t::ts).toArray ty #[d',x']).run P w=.ok v' w'/\VR ρ ω v v'/\Step P ρ ω H w ρ H' w':=by
 obtain⟨vals,hn,hlen,hcells⟩:=mL hr hp hx hel
 have main:∀(b:Option Addr) (dl cap:Nat),lenV d=some dl->d'=.slice b dl cap->(dl=0\/(∃id off i,ρ id=some i/\b=some ⟨i.blk,i.base+off,none⟩/\
  ((∃c,d=.sl id off dl c)\/(∃z,d=.sg id off dl z))))->(dl≠0\/b=none\/∃a,b=some a)->
  ∃v' w',(Builtin.copy_ (t::ts).toArray ty #[d',x']).run P w=.ok v' w'/\VR ρ ω v v'/\Step P ρ ω H w ρ H' w':=by
  intro b dl cap hl hd' hb _;subst hd';unfold copyV at h;rw[hl]at h;simp only[cZ,tU]at h;have hmin:(new.take dl).length=Nat.min new.length dl:=by rw[List.length_take];exact Nat.min_comm _ _
  have hle:Nat.min new.length dl<=new.length:=Nat.min_le_left _ _
  have htk:new.take dl=new.take (Nat.min new.length dl):=by
   rcases Nat.le_total dl new.length with h1|h1
   .rw[show Nat.min new.length dl=dl from Nat.min_eq_right h1]
   .rw[show Nat.min new.length dl=new.length from Nat.min_eq_left h1,List.take_of_length_le h1,List.take_of_length_le (Nat.le_refl _)]
  have hok:=hn.take hle;rw[<-htk]at hok;have hc:=hcells w _ rfl hle;cases hz:Nat.beq (new.take dl).length 0 with
  |true=>
   rw[hz]at h;simp only[cond,R.ok.injEq]at h;obtain⟨rfl,rfl⟩:=h;have hz:=Nat.eq_of_beq_eq_true hz;have h0:Nat.min new.length dl=0:=by omega
   have hv0:vals.take (Nat.min new.length dl*esz)=[]:=by rw[h0];simp
   refine⟨_,w,mS he hsz hlen hc (w':=w) (λa _=>?_) (λ_=>rfl),?_,.refl hr⟩
   .rw[hv0];rfl
   .rw[h0];exact .int _ _
  |false=>
   rw[hz]at h;simp only[cond]at h
   have hez:Nat.beq esz 0=false:=by
    cases hq:Nat.beq esz 0 with
    |false=>rfl
    |true=>have:=Nat.eq_of_beq_eq_true hq;omega
   rw[hez]at h;simp only at h;have hdl:dl≠0:=by intro e0;subst e0;simp at hz
   rcases hb with hb|⟨id,off,i,hi,rfl,hb⟩
   .exact absurd hb hdl
   .have hw:writeEls H esz id off (new.take dl) (.int .i64 (.ofNat (new.take dl).length))=.ok v H':=by
     rcases hb with⟨c,rfl⟩|⟨z,rfl⟩<;>exact h
    unfold writeEls at hw;simp only[cZ]at hw;cases ho:H.m.get .dead id with
    |arr esz' m dd els=>
     rw[ho]at hw;simp only at hw;cases hq:(Nat.beq esz esz'&&(Nat.beq (Nat.mod off esz) 0&&Nat.ble (Nat.add (Nat.div off esz) (new.take dl).length) m))with
     |false=>rw[hq]at hw;cases hw
     |true=>
      rw[hq]at hw;simp only[cond,R.ok.injEq]at hw;obtain⟨rfl,rfl⟩:=hw;rw[Bool.and_eq_true,Bool.and_eq_true]at hq;obtain rfl:=Nat.eq_of_beq_eq_true hq.1;have q1:off%esz=0:=Nat.eq_of_beq_eq_true hq.2.1;have q2:off/esz+(new.take dl).length<=m:=Nat.le_of_ble_eq_true hq.2.2;have hobj:=hr.ok id;rw[ho]at hobj;obtain⟨i',c,T,hi',hcc,ha⟩:=hobj;rw[hi]at hi';cases hi';have hoff:off/esz*esz=off:=by have:=Nat.div_add_mod off esz;rw[q1,Nat.mul_comm]at this;omega
      have hput:=ha.putEls hp hok q2;rw[hoff]at hput;have hvl:=hok.len;have hmul:(off/esz+(new.take dl).length)*esz<=m*esz:=Nat.mul_le_mul_right _ q2;rw[Nat.add_mul,hoff]at hmul;have hl':=ha.lim;have hsz':=ha.size;have hstore:=run_storeCells_at (P:=P) i.blk (i.base+off) T (vals.take (Nat.min new.length dl*esz)) 0 c w hcc (by omega) hok.one;simp only[Nat.add_zero]at hstore;refine⟨_,w.setRow i.blk (splice c (i.base+off) (vals.take (Nat.min new.length dl*esz))),mS he hsz hlen hc (λa ea=>?_) (λe0=>by cases e0),?_,?_⟩
      .cases ea;exact hstore
      .rw[hmin];exact .int _ _
      .exact hr.set hi (by rw[ho];rfl) rfl rfl rfl (setRow_size _ _ _) (λb hb=>setRow_other w i.blk b _ hb) ⟨i,_,T,hi,setRow_heap w i.blk c _ T (0,0) hcc,hput⟩
    |ro _ _ _ _=>rw[ho]at hw;cases hw
    |dead=>rw[ho]at hw;cases hw
    |lp _ _ _ _ _=>rw[ho]at hw;cases hw
    |mp _=>rw[ho]at hw;cases hw
    |fwd _ _ _ _ _=>rw[ho]at hw;cases hw
 cases hd with
 |snil=>exact main none 0 0 rfl rfl (.inl rfl) (.inr (.inl rfl))
 |se a c=>exact main (some a) 0 c rfl rfl (.inl rfl) (.inr (.inr ⟨a,rfl⟩))
 |sl id off len cap i hi=>exact main _ len cap rfl rfl (.inr ⟨id,off,i,hi,rfl,.inl ⟨cap,rfl⟩⟩) (.inr (.inr ⟨_,rfl⟩))
 |sg id off len ez cap i hi hl hlim=>exact main _ len cap rfl rfl (.inr ⟨id,off,i,hi,rfl,.inr ⟨ez,rfl⟩⟩) (.inr (.inr ⟨_,rfl⟩))
 |_=>cases h
end Go.Ex
namespace Go.Ex
open Go
variable{P:Program}{ρ:Rho}{ω:Nat->Value}{H:AH}{w:World}
def EntR(ρ:Rho)(ω:Nat->Value)(a:AVal×AVal)(b:MapEntry):Prop:=VR ρ ω a.1 b.key/\VR ρ ω a.2 b.val
theorem mT{k:AVal}{k':Value}(hk:VR ρ ω k k'){kk:IntKind}:∀{es:List (AVal×AVal)} {l:List MapEntry},All2 (EntR ρ ω) es l->∀{r:Option AVal},findK k es=some r->∀i:Nat,(r=none/\Instr.findNow (.int kk) k' l i=some none/\∀(v:AVal) (e':MapEntry),VR ρ ω v e'.val->e'.key=k'->All2 (EntR ρ ω) (setK k v es) (l++[e']))\/
 (∃v j e,r=some v/\Instr.findNow (.int kk) k' l i=some (some (i+j,e.val))/\VR ρ ω v e.val/\l[j]?=some e/\e.key=k'/\(∃a m,k'=.int a m)/\
  ∀(u:AVal) (u':Value),VR ρ ω u u'->All2 (EntR ρ ω) (setK k u es) (l.modify j λe=>{e with key:=k',val:=u'})):=by
 intro es l hall
 induction hall with
 |nil=>intro r h i;simp only[findK,Option.some.injEq]at h;subst h;exact .inl ⟨rfl,rfl,λv e' hv he=>.cons ⟨by rw[he];exact hk,hv⟩ .nil⟩
 |@cons a b l1 r1 hab ht ih=>
  intro r h i;obtain⟨ka,va⟩:=a;obtain⟨hka,hva⟩:=hab;simp only at hka hva;cases hk with
  |int a m=>
   cases ka with
   |int b' n=>
    obtain⟨bk,bv,bb⟩:=b;simp only at hka hva;cases hka;simp only[findK]at h;cases h1:kindEq a b' with
    |false=>rw[h1]at h;cases h
    |true=>
     obtain rfl:=gj.1 h1;rw[h1]at h;simp only[cond]at h;cases h2:intEq m n with
     |true=>
      rw[h2]at h;simp only[Option.some.injEq]at h;subst h;have hmn:(m==n)=true:=by rw[<-bY];exact h2
      obtain rfl:=eq_of_beq hmn;refine .inr ⟨va,0,⟨.int a m,bv,bb⟩,rfl,?_,hva,rfl,rfl,⟨a,m,rfl⟩,λu u' hu=>?_⟩
      .simp[Instr.findNow,Instr.sameNow]
      .simp only[setK,AVal.eq1,h1,h2,Bool.and_self,cond];exact .cons ⟨.int _ _,hu⟩ ht
     |false=>
      rw[h2]at h;simp only at h;have hmn:(m==n)=false:=by rw[<-bY];exact h2
      rcases ih h (i+1)with⟨e1,e2,e3⟩|⟨v,j,e,e1,e2,e3,e4,e5,e6,e7⟩
      .refine .inl ⟨e1,?_,λv e' hv he=>?_⟩
       .simp only[Instr.findNow,Instr.sameNow,if_true,hmn];exact e2
       .simp only[setK,AVal.eq1,h1,h2,Bool.and_false,cond];exact .cons ⟨.int _ _,hva⟩ (e3 v e' hv he)
      .refine .inr ⟨v,j+1,e,e1,?_,e3,by simpa using e4,e5,e6,λu u' hu=>?_⟩
       .simp only[Instr.findNow,Instr.sameNow,if_true,hmn];rw[e2];congr 3;omega
       .simp only[setK,AVal.eq1,h1,h2,Bool.and_false,cond,List.modify_succ_cons];exact .cons ⟨.int _ _,hva⟩ (e7 u u' hu)
   |_=>cases h
  |_=>cases ka<;>cases h
theorem gx{kt:TypeId}{kk:IntKind}(h:P.underlying kt=some (.int kk))(em:Bool)(v:Value):(Instr.checkKey em 10000 kt v).run P w=.ok () w:=by show(Instr.checkKey em (9999+1) kt v).run P w=_;unfold Instr.checkKey;rw[Sem.run_bind,run_underlying h,Result.andThen_ok];cases v<;>rfl
theorem tW(hr:HR P ρ ω H w){t kt el:TypeId}{kk:IntKind}(ht:P.underlying t=some (.map kt el))(hkt:P.underlying kt=some (.int kk)){z:AVal}(hz:tZero P el=some z){m k v:AVal}{m' k':Value}(hm:VR ρ ω m m')(hk:VR ρ ω k k'){ok:Bool}(h:lookupV H z ok m k=v)(hv:v≠.bad):∃v',(Instr.lookup t m' k' ok).run P w=.ok v' w/\VR ρ ω v v':=by
 cases hm with
 |map id i hi=>
  unfold lookupV at h;simp only at h;cases ho:H.m.get .dead id with
  |mp es=>
   rw[ho]at h;simp only at h;have hobj:=hr.ok id;rw[ho]at hobj;obtain⟨i',ents,clk,hi',hc,hall⟩:=hobj;rw[hi]at hi';cases hi';obtain⟨it,zv,hin,hzv,hof⟩:=b7 hz;have hzr:(zeroValue el).run P w=.ok zv w:=by simp[zeroValue,typeInfo,hin,hzv]
   have hgo:(getObj i.blk).run P w=.ok (.map ents clk) w:=by simp[getObj,Sem.run,hc]
   cases hf:findK k es with
   |none=>rw[hf]at h;exact absurd h.symm hv
   |some r=>
    rw[hf]at h;rcases mT hk (kk:=kk) hall hf 0 with⟨rfl,e2,_⟩|⟨v1,j,e,rfl,e2,e3,_⟩
    .simp only at h;have hfk:(Instr.findKey kt k' ents.toList).run P w=.ok none w:=by simp[Instr.findKey,run_underlying hkt,e2]
     refine⟨_,by simp only[Instr.lookup,Sem.run_bind,run_underlying ht,Result.andThen_ok,Sem.run_pure,hgo,gx hkt,hfk,hzr];rfl,?_⟩;cases ok with
     |false=>rw[<-h];exact dV hof
     |true=>rw[<-h];exact .tup _ _ (.cons (dV hof) (.cons (.bool false) .nil))
    .simp only at h;have hfk:(Instr.findKey kt k' ents.toList).run P w=.ok (some (0+j,e.val)) w:=by simp[Instr.findKey,run_underlying hkt,e2]
     refine⟨_,by simp only[Instr.lookup,Sem.run_bind,run_underlying ht,Result.andThen_ok,Sem.run_pure,hgo,gx hkt,hfk];rfl,?_⟩;cases ok with
     |false=>rw[<-h];exact e3
     |true=>rw[<-h];exact .tup _ _ (.cons e3 (.cons (.bool true) .nil))
  |ro _ _ _ _=>rw[ho]at h;exact absurd h.symm hv
  |fwd _ _ _ _ _=>rw[ho]at h;exact absurd h.symm hv
  |dead=>rw[ho]at h;exact absurd h.symm hv
  |lp _ _ _ _ _=>rw[ho]at h;exact absurd h.symm hv
  |arr _ _ _ _=>rw[ho]at h;exact absurd h.symm hv
 |_=>exact absurd h.symm hv
theorem tX(hr:HR P ρ ω H w){t kt el:TypeId}{kk:IntKind}(ht:P.underlying t=some (.map kt el))(hkt:P.underlying kt=some (.int kk)){m k u v:AVal}{m' k' u':Value}(hm:VR ρ ω m m')(hk:VR ρ ω k k')(hu:VR ρ ω u u'){H':AH}(h:mapupV H m k u=.ok v H'):v=undefV/\∃w',(Instr.mapUpdate t m' k' u').run P w=.ok () w'/\Step P ρ ω H w ρ H' w':=by
 cases hm with
 |map id i hi=>
  unfold mapupV at h;simp only at h;cases ho:H.m.get .dead id with
  |mp es=>
   rw[ho]at h;simp only at h;have hobj:=hr.ok id;rw[ho]at hobj;obtain⟨i',ents,clk,hi',hc,hall⟩:=hobj;rw[hi]at hi';cases hi';have hgo:(getObj i.blk).run P w=.ok (.map ents clk) w:=by simp[getObj,Sem.run,hc]
   have hlt:i.blk<w.heap.size:=(Array.getElem?_eq_some_iff.1 hc).1;cases hf:findK k es with
   |none=>rw[hf]at h;cases h
   |some r=>
    rw[hf]at h;simp only[R.ok.injEq]at h;obtain⟨rfl,rfl⟩:=h;have hset:∀o:Obj,(setObj i.blk o).run P w=.ok () {w with heap:=w.heap.setIfInBounds i.blk o}:=λo=>by simp[setObj,Sem.run,hc]
    have fin:∀(ents':Array MapEntry) (clk':Nat),All2 (EntR ρ ω) (setK k u es) ents'.toList->
     Step P ρ ω H w ρ (H.set id (.mp (setK k u es))) {w with heap:=w.heap.setIfInBounds i.blk (.map ents' clk')}:=by
     intro ents' clk' ha;refine hr.set hi (by rw[ho];rfl) rfl rfl rfl (by simp) (λb hb=>?_) ⟨i,ents',clk',hi,?_,ha⟩
     .show(w.heap.setIfInBounds i.blk _)[b]?=_;rw[Array.getElem?_setIfInBounds_ne (Ne.symm hb)]
     .show(w.heap.setIfInBounds i.blk _)[i.blk]?=_;rw[Array.getElem?_setIfInBounds_self_of_lt hlt]
    refine⟨rfl,?_⟩;rcases mT hk (kk:=kk) hall hf 0 with⟨rfl,e2,e3⟩|⟨v1,j,e,rfl,e2,e3,e4,e5,⟨a,n,rfl⟩,e7⟩
    .have hfk:(Instr.findKey kt k' ents.toList).run P w=.ok none w:=by simp[Instr.findKey,run_underlying hkt,e2]
     refine⟨_,by simp only[Instr.mapUpdate,Sem.run_bind,run_underlying ht,Result.andThen_ok,hgo,gx hkt,hfk];exact hset _,fin _ _ ?_⟩;have:=e3 u {key:=k',val:=u',born:=clk} hu rfl;simpa using this
    .have hfk:(Instr.findKey kt (.int a n) ents.toList).run P w=.ok (some (j,e.val)) w:=by simp[Instr.findKey,run_underlying hkt,e2]
     have hek:ents[j]?=some e:=by rw[<-Array.getElem?_toList];exact e4
     have hst:(Instr.keyThatStays (.int a n) (.int a n)).run P w=.ok (.int a n) w:=by simp[Instr.keyThatStays,Instr.sameBits]
     refine⟨_,by simp only[Instr.mapUpdate,Sem.run_bind,run_underlying ht,Result.andThen_ok,hgo,gx hkt,hfk,hek,Option.map_some,Option.getD_some,e5,hst];exact hset _,fin _ _ ?_⟩;have:=e7 u u' hu;rw[Array.toList_modify];exact this
  |ro _ _ _ _=>rw[ho]at h;cases h
  |fwd _ _ _ _ _=>rw[ho]at h;cases h
  |dead=>rw[ho]at h;cases h
  |lp _ _ _ _ _=>rw[ho]at h;cases h
  |arr _ _ _ _=>rw[ho]at h;cases h
 |_=>cases h
end Go.Ex
namespace Go.Ex
open Go
variable{P:Program}{ρ:Rho}{ω:Nat->Value}{H:AH}{w:World}
theorem mU{t:TypeId}{d:TypeDesc}(h:P.underlying t=some d)(hd:d=.bool\/∃k,d=.int k){cs:Array Value}{o:Nat}{v:Value}(hc:cs[o]?=some v)(w:World):(part t cs o).run P w=.ok v w:=by
 have ha:(isAgg t).run P w=.ok false w:=by refine dU ?_ w;unfold tAgg;rw[h];rcases hd with rfl|⟨k,rfl⟩<;>rfl
 unfold part;rw[Sem.run_bind,ha,Result.andThen_ok];simp[hc]
theorem mV{xs ys:List AVal}{vs us:List Value}(hx:All2 (VR ρ ω) xs vs)(hy:All2 (VR ρ ω) ys us)(d:Nat)(w:World):∀(fs:List Field) {l:List Nat} {b:Bool},flatF P fs=some l->eqCells xs ys l=some b->(Op.eqFields (d+1) vs.toArray us.toArray fs).run P w=.ok b w
 |[],l,b,h,hb=>by simp only[flatF,Option.some.injEq]at h;subst h;simp only[eqCells,Option.some.injEq]at hb;subst hb;simp[Op.eqFields]
 |f::fs,l,b,h,hb=>by
  unfold flatF at h;cases hn:f.name== "_" with
  |true=>rw[hn]at h;cases h
  |false=>
   rw[hn]at h;simp only[cond]at h;have hne:f.name≠ "_" :=by intro e;rw[e]at hn;simp at hn
   have main:∀k',P.underlying f.type=some (.int k')->(flatF P fs).map (f.offset::·)=some l->
    (Op.eqFields (d+1) vs.toArray us.toArray (f::fs)).run P w=.ok b w:=by
    intro k' hu hl;cases hr:flatF P fs with
    |none=>rw[hr]at hl;cases hl
    |some r=>
     rw[hr]at hl;simp only[Option.map_some,Option.some.injEq]at hl;subst hl;unfold eqCells at hb
     have step:∀(x y:Value) (c:Bool),vs.toArray[f.offset]?=some x->us.toArray[f.offset]?=some y->(Op.equalIn (d+1) f.type x y).run P w=.ok c w->
      (c=true->eqCells xs ys r=some b)->(c=false->b=false)->(Op.eqFields (d+1) vs.toArray us.toArray (f::fs)).run P w=.ok b w:=by
      intro x y c h1 h2 h3 h4 h5;simp only[Op.eqFields,if_pos hne,Sem.run_bind,mU hu (.inr ⟨k',rfl⟩) h1,mU hu (.inr ⟨k',rfl⟩) h2,Result.andThen_ok,h3];cases c with
      |true=>simp only[Bool.not_true,Bool.false_eq_true,if_false];exact mV hx hy d w fs hr (h4 rfl)
      |false=>simp only[Bool.not_false,if_true,Sem.run_pure];rw[h5 rfl]
     split at hb
     .rename_i k m k2 n e1 e2;obtain⟨v1,f1,g1⟩:=hx.get _ _ e1;obtain⟨u1,f2,g2⟩:=hy.get _ _ e2;cases g1;cases g2;cases hk:kindEq k k2 with
      |false=>rw[hk]at hb;cases hb
      |true=>
       obtain rfl:=gj.1 hk;rw[hk]at hb;simp only[cond]at hb;refine step _ _ (m==n) (by simpa using f1) (by simpa using f2) (run_equalIn_int w d f.type _ k' m n hu) (λhc=>?_) (λhc=>?_)
       .rw[bY,hc]at hb;exact hb
       .rw[bY,hc]at hb;simp only[Option.some.injEq]at hb;exact hb.symm
     .cases hb
   split at h
   .rename_i k hu;exact main k hu h
   .cases h
theorem mW{t:TypeId}{fs:Array Field}(ht:P.underlying t=some (.struct fs))(hg:P.eqGuardType P.depth t=false)(hs:P.stoodInHeld t=false){l:List Nat}(hl:flatF P fs.toList=some l){op:BinOp}{neg:Bool}(hop:(op=.eql/\neg=false)\/(op=.neq/\neg=true)){xo yo:Operand}{x y v:AVal}{x' y':Value}(hx:VR ρ ω x x')(hy:VR ρ ω y y')(h:eqsV neg l x y=v)(hv:v≠.bad):∃v',(do eqGuard op t xo yo x' y';binOp op t x' y':Sem Value).run P w=.ok v' w/\VR ρ ω v v':=by
 have hf:P.fieldsOf t=fs:=by unfold Program.fieldsOf;rw[ht]
 cases hx with
 |agg xs vs h1 h1c=>
  cases hy with
  |agg ys us h2 h2c=>
   simp only[eqsV]at h;cases hb:eqCells xs ys l with
   |none=>rw[hb]at h;exact absurd h.symm hv
   |some b=>
    rw[hb]at h;simp only at h;have hrun:(Op.equalIn 10000 t (.agg vs.toArray) (.agg us.toArray)).run P w=.ok b w:=by show(Op.equalIn (9998+1+1) t _ _).run P w=_;rw[run_equalIn_struct w (9998+1) t _ _ (by rw[hf];exact ht) hs,hf];exact mV h1 h2 9998 w fs.toList hl hb
    rcases hop with⟨rfl,rfl⟩|⟨rfl,rfl⟩
    .refine⟨.bool b,?_,by rw[<-h];exact .bool b⟩;rw[Sem.run_bind,run_eqGuard_agg w _ _ _ _ _ _ hg,Result.andThen_ok,run_eql_struct,hrun,Result.andThen_ok]
    .refine⟨.bool (!b),?_,by rw[<-h];exact .bool _⟩;rw[Sem.run_bind,run_eqGuard_agg w _ _ _ _ _ _ hg,Result.andThen_ok,run_neq_struct,hrun,Result.andThen_ok]
  |_=>exact absurd h.symm hv
 |_=>cases y<;>exact absurd h.symm hv
end Go.Ex
namespace Go.Ex
open Go
variable{P:Program}{ρ:Rho}{ω:Nat->Value}{H:AH}{w:World}
def OpRes(P:Program)(ρ:Rho)(ω:Nat->Value)(H:AH)(w:World)(v:AVal)(H':AH)(s:Sem Next):Prop:=∃ρ' r w',s.run P w=.ok r w'/\((∃v',r=.value v'/\VR ρ' ω v v')\/(r=.skip/\v=undefV))/\Step P ρ ω H w ρ' H' w'
theorem OpRes.ay(hr:HR P ρ ω H w){v:AVal}{s:Sem Value}(h:∃v',s.run P w=.ok v' w/\VR ρ ω v v'):OpRes P ρ ω H w v H (do pure (.value (<-s))):=by obtain⟨v',h1,h2⟩:=h;exact⟨ρ,.value v',w,by rw[Sem.run_bind,h1,Result.andThen_ok,Sem.run_pure],.inl ⟨v',rfl,h2⟩,.refl hr⟩
theorem OpRes.dz{v:AVal}{H':AH}{s:Sem Value}(h:∃ρ' v' w',s.run P w=.ok v' w'/\VR ρ' ω v v'/\Step P ρ ω H w ρ' H' w'):OpRes P ρ ω H w v H' (do pure (.value (<-s))):=by obtain⟨ρ',v',w',h1,h2,h3⟩:=h;exact⟨ρ',.value v',w',by rw[Sem.run_bind,h1,Result.andThen_ok,Sem.run_pure],.inl ⟨v',rfl,h2⟩,h3⟩
theorem OpRes.mY{v:AVal}{H':AH}{s:Sem Unit}(h:v=undefV/\∃w',s.run P w=.ok () w'/\Step P ρ ω H w ρ H' w'):OpRes P ρ ω H w v H' (do s;pure .skip):=by obtain⟨h0,w',h1,h3⟩:=h;exact⟨ρ,.skip,w',by rw[Sem.run_bind,h1,Result.andThen_ok,Sem.run_pure],.inr ⟨rfl,h0⟩,h3⟩
theorem av{x v:AVal}{H':AH}(h:notBad x H=.ok v H'):x=v/\v≠.bad/\H'=H:=by
 unfold notBad at h;split at h
 .cases h
 .rename_i hx;simp only[R.ok.injEq]at h;obtain⟨rfl,rfl⟩:=h;exact⟨rfl,hx,rfl⟩
section
variable{a:Act}{N:Nat}{S:List (Nat×Pth)}{G:Ctx}{L:List AVal}{e:T8 AVal}
theorem tY(hg:GlobOk P ρ)(he:EnvOk ρ ω S e a.tmps)(hc:CtxOk ρ ω G L e a.tmps){t el:TypeId}{s:Nat}(ht:tElem P t=some el)(hs:tSize P el=some s){lo hi:Option Operand}{lo' hi':Option COpd}(hlo:cOpt P N S G lo=some lo')(hhi:cOpt P N S G hi=some hi'){x v:AVal}{x':Value}(hx:VR ρ ω x x')(h:slcO s x (lo'.map (·.ev L e)) (hi'.map (·.ev L e))=v)(hv:v≠.bad):∃v',(Instr.sliceAt t x' (lo.map a.eval) (hi.map a.eval) none).run P w=.ok v' w/\VR ρ ω v v':=by
 have one:∀{o:Option Operand} {o':Option COpd},cOpt P N S G o=some o'->(o=none/\o'=none)\/∃y c,o=some y/\o'=some c/\VR ρ ω (c.ev L e) (a.eval y):=by
  intro o o' ho;cases o with
  |none=>simp only[cOpt,Option.some.injEq]at ho;exact .inl ⟨rfl,ho.symm⟩
  |some y=>simp only[cOpt,Option.map_eq_some_iff]at ho;obtain⟨c,h1,rfl⟩:=ho;exact .inr ⟨y,c,rfl,rfl,bG hg he hc h1⟩
 rcases one hlo with⟨rfl,rfl⟩|⟨yl,cl,rfl,rfl,hl⟩<;>rcases one hhi with⟨rfl,rfl⟩|⟨yh,ch,rfl,rfl,hh⟩
 .exact gr ht hs (.inl ⟨rfl,rfl⟩) (.inl ⟨rfl,rfl⟩) hx h hv
 .simp only[Option.map_some,Option.map_none,slcO]at h;cases hn:natOf (ch.ev L e)with
  |none=>rw[hn]at h;exact absurd h.symm hv
  |some n=>rw[hn]at h;obtain⟨k,hk⟩:=cY hh hn;exact gr ht hs (.inl ⟨rfl,rfl⟩) (.inr ⟨k,n,by rw[Option.map_some,hk],rfl⟩) hx h hv
 .simp only[Option.map_some,Option.map_none,slcO]at h;cases hn:natOf (cl.ev L e)with
  |none=>rw[hn]at h;exact absurd h.symm hv
  |some n=>rw[hn]at h;obtain⟨k,hk⟩:=cY hl hn;exact gr ht hs (.inr ⟨k,by rw[Option.map_some,hk]⟩) (.inl ⟨rfl,rfl⟩) hx h hv
 .simp only[Option.map_some,slcO]at h;cases hn:natOf (cl.ev L e)with
  |none=>rw[hn]at h;exact absurd h.symm hv
  |some n=>
   cases hm:natOf (ch.ev L e)with
   |none=>rw[hn,hm]at h;exact absurd h.symm hv
   |some m=>rw[hn,hm]at h;obtain⟨k,hk⟩:=cY hl hn;obtain⟨k2,hk2⟩:=cY hh hm;exact gr ht hs (.inr ⟨k,by rw[Option.map_some,hk]⟩) (.inr ⟨k2,m,by rw[Option.map_some,hk2],rfl⟩) hx h hv
end
end Go.Ex
namespace Go.Ex
open Go
variable{P:Program}{ρ:Rho}{ω:Nat->Value}{H:AH}{w:World}
variable{a:Act}{N:Nat}{S:List (Nat×Pth)}{G:Ctx}{L:List AVal}{e:T8 AVal}
def isCallOp:Op->Bool
 |.call _=>true
 |_=>false
theorem tZ(hω:∀i,(ω i).oneCell'=true)(hr:HR P ρ ω H w)(hg:GlobOk P ρ)(he:EnvOk ρ ω S e a.tmps)(hc:CtxOk ρ ω G L e a.tmps){o:Oper}(hnc:isCallOp o.op=false){cop:COp}(hcop:cOp P N S G o.op=some cop){call:Caller}{v:AVal}{H':AH}(hdo:doOp call cop L e H=.ok v H'):OpRes P ρ ω H w v H' (execOp a.eval o):=by
 have opd:∀{x:Operand} {c:COpd},cOpd P N S G x=some c->VR ρ ω (c.ev L e) (a.eval x):=λh=>bG hg he hc h
 obtain⟨dst,op,type,pos,after,guard⟩:=o;simp only at hcop hnc;cases op with
 |call c=>cases hnc
 |load t x=>simp only[cOp,Option.bind_eq_some_iff,Option.map_eq_some_iff]at hcop;obtain⟨ag,h1,s,h2,c,h3,rfl⟩:=hcop;obtain⟨h4,h5,rfl⟩:=av hdo;exact .ay hr (mA hr h1 h2 (opd h3) h4 h5)
 |store t x u=>simp only[cOp,Option.bind_eq_some_iff,Option.map_eq_some_iff]at hcop;obtain⟨s,h2,c,h3,d,h4,rfl⟩:=hcop;exact .mY (sQ hω hr h2 (opd h3) (opd h4) hdo)
 |move x=>simp only[cOp,Option.map_eq_some_iff]at hcop;obtain⟨c,h3,rfl⟩:=hcop;obtain⟨h4,h5,rfl⟩:=av hdo;refine⟨ρ,_,w,rfl,.inl ⟨_,rfl,?_⟩,.refl hr⟩;rw[<-h4];exact opd h3
 |assign x=>simp only[cOp,Option.map_eq_some_iff]at hcop;obtain⟨c,h3,rfl⟩:=hcop;obtain⟨h4,h5,rfl⟩:=av hdo;refine⟨ρ,_,w,rfl,.inl ⟨_,rfl,?_⟩,.refl hr⟩;rw[<-h4];exact opd h3
 |unOp u t x=>simp only[cOp,Option.map_eq_some_iff]at hcop;obtain⟨c,h3,rfl⟩:=hcop;obtain⟨h4,h5,rfl⟩:=av hdo;exact .ay hr (sY (opd h3) h4 h5)
 |extract x i=>simp only[cOp,Option.map_eq_some_iff]at hcop;obtain⟨c,h3,rfl⟩:=hcop;obtain⟨h4,h5,rfl⟩:=av hdo;exact .ay hr (td (opd h3) h4 h5)
 |slice t x lo hi mx=>
  cases mx with
  |some m=>simp only[cOp]at hcop;cases hcop
  |none=>simp only[cOp,Option.bind_eq_some_iff,Option.map_eq_some_iff]at hcop;obtain⟨el,h1,s,h2,c,h3,lo',hl,hi',hh,rfl⟩:=hcop;obtain⟨h4,h5,rfl⟩:=av hdo;exact .ay hr (tY hg he hc h1 h2 hl hh (opd h3) h4 h5)
 |field s x i=>simp only[cOp,Option.bind_eq_some_iff,Option.map_eq_some_iff]at hcop;obtain⟨f,h1,z,h2,ag,h3,c,h6,rfl⟩:=hcop;obtain⟨h4,h5,rfl⟩:=av hdo;exact .ay hr (s_ h1 h3 h2 (opd h6) h4 h5)
 |pick c x y=>simp only[cOp,Option.bind_eq_some_iff,Option.map_eq_some_iff]at hcop;obtain⟨c1,h1,c2,h2,c3,h3,rfl⟩:=hcop;obtain⟨h4,h5,rfl⟩:=av hdo;obtain⟨v',h6,h7⟩:=s5 (P:=P) (w:=w) (opd h1) (opd h2) (opd h3) h4 h5;exact⟨ρ,_,w,h6,.inl ⟨v',rfl,h7⟩,.refl hr⟩
 |nilCheck x=>simp only[cOp,Option.map_eq_some_iff]at hcop;obtain⟨c,h3,rfl⟩:=hcop;obtain⟨h4,h5,rfl⟩:=av hdo;obtain⟨v',h6,h7⟩:=s6 (P:=P) (w:=w) (opd h3) h4 h5 (o:=⟨dst,.nilCheck x,type,pos,after,guard⟩) rfl rfl;exact⟨ρ,_,w,h6,.inl ⟨v',rfl,h7⟩,.refl hr⟩
 |box t x=>simp only[cOp,Option.map_eq_some_iff]at hcop;obtain⟨c,h3,rfl⟩:=hcop;exact .dz (mK hω hr (opd h3) hdo)
 |fieldAddr s x i=>
  simp only[cOp,Option.bind_eq_some_iff]at hcop;obtain⟨f,h1,z,h2,hcop⟩:=hcop;cases hz:Nat.beq z 0 with
  |true=>rw[hz]at hcop;cases hcop
  |false=>rw[hz]at hcop;simp only[cond,Option.map_eq_some_iff]at hcop;obtain⟨c,h3,rfl⟩:=hcop;obtain⟨h4,h5,rfl⟩:=av hdo;exact .ay hr (s7 h1 h2 (by intro e0;rw[e0]at hz;cases hz) (opd h3) h4 h5)
 |lookup t m k ok=>
  simp only[cOp]at hcop;split at hcop
  .rename_i kt el hu;split at hcop
   .rename_i kk hk;simp only[Option.bind_eq_some_iff,Option.map_eq_some_iff]at hcop;obtain⟨z,h1,cm,h2,ck,h3,rfl⟩:=hcop;obtain⟨h4,h5,rfl⟩:=av hdo;exact .ay hr (tW hr hu hk h1 (opd h2) (opd h3) h4 h5)
   .cases hcop
  .cases hcop
 |mapUpdate t m k u=>
  simp only[cOp]at hcop;split at hcop
  .rename_i kt el hu;split at hcop
   .rename_i kk hk;simp only[Option.bind_eq_some_iff,Option.map_eq_some_iff]at hcop;obtain⟨cm,h1,ck,h2,cu,h3,rfl⟩:=hcop;exact .mY (tX hr hu hk (opd h1) (opd h2) (opd h3) hdo)
   .cases hcop
  .cases hcop
 |alloc t=>
  simp only[cOp,Option.map_eq_some_iff]at hcop;obtain⟨z,hz,rfl⟩:=hcop;obtain⟨it,zv,hi,hzv,hof⟩:=b7 hz;obtain⟨ρ',v',w',h1,h2,h3⟩:=mK (T:=t) hω hr (dV (ρ:=ρ) (ω:=ω) hof) hdo;refine .dz ⟨ρ',v',w',?_,h2,h3⟩;rw[<-h1];unfold Instr.alloc;have hzr:(zeroValue t).run P w=.ok zv w:=by simp[zeroValue,typeInfo,hi,hzv]
  rw[Sem.run_bind,hzr,Result.andThen_ok]
 |build t ps=>
  simp only[cOp,Option.bind_eq_some_iff]at hcop;obtain⟨z,hz,hcop⟩:=hcop;split at hcop
  .rename_i fs hu;cases hall:fs.toList.all (λf=>(tSize P f.type).isSome)with
   |false=>rw[hall]at hcop;cases hcop
   |true=>rw[hall]at hcop;simp only[cond,Option.map_eq_some_iff]at hcop;obtain⟨l,hl,rfl⟩:=hcop;obtain⟨h4,h5,rfl⟩:=av hdo;exact .ay hr (tz hω hg he hc hz hu hall hl h4 h5)
  .rename_i n el hu;simp only[Option.bind_eq_some_iff,Option.map_eq_some_iff]at hcop;obtain⟨s,hs,l,hl,rfl⟩:=hcop;obtain⟨h4,h5,rfl⟩:=av hdo;exact .ay hr (tG hω hg he hc hz hu hs hl h4 h5)
  .cases hcop
 |buildSlice t n ps=>
  simp only[cOp,Option.bind_eq_some_iff]at hcop;obtain⟨el,h1,s,h2,z,h3,hcop⟩:=hcop;cases hb:Nat.blt (n*s) 65536&&(Nat.blt 0 s&&lenIs z.cells s)with
  |false=>rw[hb]at hcop;cases hcop
  |true=>rw[hb]at hcop;simp only[Bool.and_eq_true]at hb;simp only[cond,Option.map_eq_some_iff]at hcop;obtain⟨l,hl,rfl⟩:=hcop;exact .dz (tI hω hr hg he hc h1 h2 h3 hb.1 hb.2.1 hb.2.2 hl hdo)
 |binOp op t x y q=>
  simp only[cOp,Option.bind_eq_some_iff]at hcop;obtain⟨cx,h1,cy,h2,hcop⟩:=hcop;split at hcop
  .simp only[Option.some.injEq]at hcop;subst hcop;obtain⟨h4,h5,rfl⟩:=av hdo;exact .ay hr (sW (opd h1) (opd h2) h4 h5)
  .rename_i hu;simp only[Option.some.injEq]at hcop;subst hcop;obtain⟨h4,h5,rfl⟩:=av hdo;exact .ay hr (eX (cls:=0) hu (opd h1) (opd h2) h4 h5)
  .rename_i hu;simp only[Option.some.injEq]at hcop;subst hcop;obtain⟨h4,h5,rfl⟩:=av hdo;exact .ay hr (eX (cls:=1) ⟨_,hu⟩ (opd h1) (opd h2) h4 h5)
  .rename_i hu;simp only[Option.some.injEq]at hcop;subst hcop;obtain⟨h4,h5,rfl⟩:=av hdo;exact .ay hr (eX (cls:=2) ⟨_,hu⟩ (opd h1) (opd h2) h4 h5)
  .rename_i hu;simp only[Option.some.injEq]at hcop;subst hcop;obtain⟨h4,h5,rfl⟩:=av hdo;exact .ay hr (eX (cls:=3) ⟨_,_,_,hu⟩ (opd h1) (opd h2) h4 h5)
  .rename_i hu;simp only[Option.some.injEq]at hcop;subst hcop;obtain⟨h4,h5,rfl⟩:=av hdo;exact .ay hr (eX (cls:=4) ⟨_,_,hu⟩ (opd h1) (opd h2) h4 h5)
  .rename_i fs hu;cases hgs:P.eqGuardType P.depth t||P.stoodInHeld t with
   |true=>rw[hgs]at hcop;cases hcop
   |false=>
    rw[hgs]at hcop;simp only[Bool.or_eq_false_iff]at hgs;simp only[cond,Option.bind_eq_some_iff]at hcop;obtain⟨l,hl,hcop⟩:=hcop;split at hcop
    .simp only[Option.some.injEq]at hcop;subst hcop;obtain⟨h4,h5,rfl⟩:=av hdo;exact .ay hr (mW hu hgs.1 hgs.2 hl (.inl ⟨rfl,rfl⟩) (opd h1) (opd h2) h4 h5)
    .simp only[Option.some.injEq]at hcop;subst hcop;obtain⟨h4,h5,rfl⟩:=av hdo;exact .ay hr (mW hu hgs.1 hgs.2 hl (.inr ⟨rfl,rfl⟩) (opd h1) (opd h2) h4 h5)
    .cases hcop
  .cases hcop
 |convert s d x=>
  simp only[cOp]at hcop;split at hcop
  .rename_i k' k hs hd;simp only[Option.map_eq_some_iff]at hcop;obtain⟨c,h3,rfl⟩:=hcop;obtain⟨h4,h5,rfl⟩:=av hdo;exact .ay hr (sZ ⟨_,hs⟩ hd (opd h3) h4 h5)
  .cases hcop
  .cases hcop
 |makeFunc fn first caps=>
  cases fn with
  |func f=>
   simp only[cOp]at hcop;cases hb:Nat.beq first.size 0 with
   |false=>rw[hb]at hcop;cases hcop
   |true=>
    rw[hb]at hcop;simp only[cond,Option.map_eq_some_iff]at hcop;obtain⟨cs,h1,rfl⟩:=hcop;simp only[doOp,pureV,notBad,R.ok.injEq]at hdo;obtain⟨h4,rfl⟩:=hdo;have hf:first=#[]:=Array.eq_empty_of_size_eq_zero (Nat.eq_of_beq_eq_true hb)
    subst hf;refine .ay hr ⟨.func (.func f) #[] (caps.map a.eval),by simp[Instr.makeFunc],?_⟩;rw[<-h4];have h6:=VR.fnv (ρ:=ρ) (ω:=ω) f _ _ (eU hg he hc h1);rw[<-List.map_toArray,Array.toArray_toList]at h6;exact h6
  |_=>simp only[cOp]at hcop;cases hcop
 |makeMap t r=>
  cases r with
  |some x=>simp only[cOp]at hcop;cases hcop
  |none=>simp only[cOp,Option.some.injEq]at hcop;subst hcop;simp only[doOp,mkBlock,mkR,R.ok.injEq]at hdo;obtain⟨rfl,rfl⟩:=hdo;exact .dz ⟨_,tM hr (t:=t) rfl⟩
 |makeSlice t l c=>
  simp only[cOp,Option.bind_eq_some_iff]at hcop;obtain⟨el,h1,s,h2,b,h3,z,h4,hcop⟩:=hcop;cases hb:Nat.blt 0 s&&lenIs z.cells s with
  |false=>rw[hb]at hcop;cases hcop
  |true=>
   rw[hb]at hcop;simp only[Bool.and_eq_true]at hb;simp only[Bool.not_true,cond,Option.bind_eq_some_iff,Option.map_eq_some_iff]at hcop;obtain⟨cl,h5,cc,h6,rfl⟩:=hcop;simp only[doOp,mkBlock]at hdo;cases hl:natOf (cl.ev L e)with
   |none=>rw[hl]at hdo;cases hdo
   |some n=>
    cases hm:natOf (cc.ev L e)with
    |none=>rw[hl,hm]at hdo;cases hdo
    |some m=>
     rw[hl,hm]at hdo;simp only at hdo;cases hq:Nat.ble n m&&small m b with
     |false=>rw[hq]at hdo;cases hdo
     |true=>rw[hq]at hdo;simp only[Bool.and_eq_true]at hq;simp only[cond,mkR,R.ok.injEq]at hdo;obtain⟨rfl,rfl⟩:=hdo;exact .dz ⟨_,tJ hr h1 h2 h3 h4 hb.1 hb.2 (opd h5) (opd h6) hl hm (Nat.le_of_ble_eq_true hq.1) hq.2⟩
 |indexAddr t x i=>
  simp only[cOp]at hcop;split at hcop
  .rename_i el hel;simp only[Option.bind_eq_some_iff,Option.map_eq_some_iff]at hcop;obtain⟨s,h1,cx,h2,ci,h3,rfl⟩:=hcop;obtain⟨h4,h5,rfl⟩:=av hdo;exact .ay hr (s8 hel h1 (opd h2) (opd h3) h4 h5)
  .simp only[Option.bind_eq_some_iff,Option.map_eq_some_iff]at hcop;obtain⟨⟨n,el⟩,h0,s,h1,cx,h2,ci,h3,rfl⟩:=hcop;obtain⟨h4,h5,rfl⟩:=av hdo;exact .ay hr (s9 h0 h1 (opd h2) (opd h3) h4 h5)
 |index t x i=>
  simp only[cOp]at hcop;split at hcop
  .rename_i hu;simp only[Option.bind_eq_some_iff,Option.map_eq_some_iff]at hcop;obtain⟨cx,h2,ci,h3,rfl⟩:=hcop;obtain⟨h4,h5,rfl⟩:=av hdo;exact .ay hr (tv hu (opd h2) (opd h3) h4 h5)
  .simp only[Option.bind_eq_some_iff,Option.map_eq_some_iff]at hcop;obtain⟨⟨n,el⟩,h0,s,h1,ag,h6,cx,h2,ci,h3,rfl⟩:=hcop;obtain⟨h4,h5,rfl⟩:=av hdo;exact .ay hr (tc h0 h1 h6 (opd h2) (opd h3) h4 h5)
 |_=>simp only[cOp]at hcop;cases hcop
end Go.Ex
namespace Go.Ex
open Go
variable{P:Program}{ρ:Rho}{ω:Nat->Value}{H:AH}{w:World}
variable{a:Act}{N:Nat}{S:List (Nat×Pth)}{G:Ctx}{L:List AVal}{e:T8 AVal}
theorem cC{l:Array Operand}{r:List Operand}(h:l.toList=r)(f:Operand->Value):l.map f=(r.map f).toArray:=by subst h;rw[<-Array.toList_map]
theorem dZ{α:Type}{l:Array α}{r:List α}(h:l.toList=r):l=r.toArray:=by subst h;rfl
theorem t_(hr:HR P ρ ω H w)(hg:GlobOk P ρ)(he:EnvOk ρ ω S e a.tmps)(hc:CtxOk ρ ω G L e a.tmps){o:Oper}{c:Call}{b:Builtin}(ho:o.op=.call c)(hb:c.callee=.builtin b){cop:COp}(hcop:cOp P N S G o.op=some cop){call:Caller}{v:AVal}{H':AH}(hdo:doOp call cop L e H=.ok v H'):OpRes P ρ ω H w v H' (execOp a.eval o):=by
 have opd:∀{x:Operand} {c:COpd},cOpd P N S G x=some c->VR ρ ω (c.ev L e) (a.eval x):=λh=>bG hg he hc h
 obtain⟨dst,op,type,pos,after,guard⟩:=o;obtain⟨callee,args,argTypes⟩:=c;simp only at hcop ho hb;subst ho hb;have hrun:(execOp a.eval ⟨dst,.call ⟨.builtin b,args,argTypes⟩,type,pos,after,guard⟩)=builtin b argTypes type (args.map λ|.const _=>true|_=>false) (args.map a.eval):=by simp only[execOp,resolve,invoke];rfl
 rw[hrun];simp only[cOp,cCall]at hcop;split at hcop
 .rename_i x t hx ht;split at hcop
  .rename_i el hu;simp only[Option.map_eq_some_iff]at hcop;obtain⟨cx,h1,rfl⟩:=hcop;obtain⟨h4,h5,rfl⟩:=av hdo;rw[cC hx,dZ ht];refine .ay hr (tg (e:=el) ?_ (opd h1) h4 h5);unfold tElem;rw[hu]
  .rename_i hu;simp only[Option.map_eq_some_iff]at hcop;obtain⟨cx,h1,rfl⟩:=hcop;obtain⟨h4,h5,rfl⟩:=av hdo;rw[cC hx,dZ ht];exact .ay hr (th hu (opd h1) h4 h5)
  .rename_i n el hu;simp only[Option.some.injEq]at hcop;subst hcop;simp only[doOp,pureV,notBad,COpd.ev,R.ok.injEq]at hdo;obtain⟨h4,rfl⟩:=hdo;rw[cC hx,dZ ht];refine .ay hr ⟨goInt n,by simp[Builtin.len_,run_underlying hu],?_⟩;rw[<-h4];exact .int _ _
  .rename_i el hu;simp only[Option.map_eq_some_iff]at hcop;obtain⟨⟨n,e2⟩,h1,rfl⟩:=hcop;simp only[doOp,pureV,notBad,COpd.ev,R.ok.injEq]at hdo;obtain⟨h4,rfl⟩:=hdo;rw[cC hx,dZ ht];refine .ay hr ⟨goInt n,by simp[Builtin.len_,run_underlying hu,run_underlying (jI h1)],?_⟩;rw[<-h4];exact .int _ _
  .cases hcop
 .rename_i s x t u ts hx ht;simp only[Option.bind_eq_some_iff]at hcop;obtain⟨el,h1,el2,h2,sz,h3,by_,h4,z,h5,hcop⟩:=hcop;cases hb:Nat.blt 0 sz&&lenIs z.cells sz with
  |false=>rw[hb]at hcop;cases hcop
  |true=>
   rw[hb]at hcop;simp only[Bool.and_eq_true]at hb;simp only[Bool.not_true,cond,Option.bind_eq_some_iff,Option.map_eq_some_iff]at hcop;obtain⟨cs,h6,cx,h7,rfl⟩:=hcop;simp only[doOp]at hdo;cases hel:elemsOf H sz (cx.ev L e)with
   |none=>rw[hel]at hdo;cases hdo
   |some new=>
    rw[hel]at hdo;obtain⟨it,zv,hi,hzv,hof⟩:=b7 h5
    have hT:ElemT P t el sz by_:=⟨bQ h1,h3,h4,it,zv,hi,hzv,by
     have:=(dy (ρ:=ρ) (ω:=ω) hof).1.length;rw[cV hb.2]at this
     simpa using this.symm⟩
    rw[cC hx,dZ ht];exact .dz (tT hr hT (by rw[<-Nat.blt_eq];exact hb.1) (bQ h2) (opd h6) (opd h7) hel hdo)
 .rename_i d s t ts hx ht;simp only[Option.bind_eq_some_iff]at hcop;obtain⟨el,h1,sz,h3,hcop⟩:=hcop;cases hb:Nat.beq sz 0 with
  |true=>rw[hb]at hcop;cases hcop
  |false=>
   rw[hb]at hcop;simp only[cond,Option.bind_eq_some_iff,Option.map_eq_some_iff]at hcop;obtain⟨cd,h6,cs,h7,rfl⟩:=hcop;simp only[doOp]at hdo;cases hel:elemsOf H sz (cs.ev L e)with
   |none=>rw[hel]at hdo;cases hdo
   |some new=>
    rw[hel]at hdo
    have hp:0<sz:=by
     rcases Nat.eq_zero_or_pos sz with h|h
     .subst h;cases hb
     .exact h
    rw[cC hx,dZ ht];obtain⟨v',w',h8,h9,h10⟩:=tV (ts:=ts) (ty:=type) hr (bQ h1) h3 hp (opd h6) (opd h7) hel hdo;exact .dz ⟨ρ,v',w',h8,h9,h10⟩
 .rename_i hx ht;simp only[Option.map_eq_some_iff]at hcop;obtain⟨cs,h1,rfl⟩:=hcop;obtain⟨h4,h5,rfl⟩:=av hdo;rw[cC rfl];exact .ay hr (tr (eU hg he hc h1) h4 h5)
 .rename_i hx ht;simp only[Option.map_eq_some_iff]at hcop;obtain⟨cs,h1,rfl⟩:=hcop;obtain⟨h4,h5,rfl⟩:=av hdo;rw[cC rfl];exact .ay hr (tu (eU hg he hc h1) h4 h5)
 .cases hcop
end Go.Ex
namespace Go.Ex
open Go
variable{P:Program}{ρ:Rho}{ω:Nat->Value}{H:AH}{w:World}
variable{a:Act}{N:Nat}{S:List (Nat×Pth)}{A:List Nat}{G G':Ctx}{L:List AVal}{e:T8 AVal}
theorem mZ{l:List (Nat×Pth)}{t:Nat}{p:Pth}(h:look l t=some p):(t,p)∈l:=by
 induction l with
 |nil=>cases h
 |cons x l ih=>
  obtain⟨u,q⟩:=x;unfold look at h;cases hb:Nat.beq u t with
  |true=>rw[hb]at h;simp only[cond,Option.some.injEq]at h;rw[<-Nat.eq_of_beq_eq_true hb,h];exact List.mem_cons_self ..
  |false=>rw[hb]at h;exact List.mem_cons_of_mem _ (ih h)
theorem jV{l:List (Nat×Pth)}(hs:slotsOk l=true){t u:Nat}{p:Pth}(h1:look l t=some p)(h2:look l u=some p):t=u:=by
 induction l with
 |nil=>cases h1
 |cons x l ih=>
  obtain⟨s,q⟩:=x;simp only[slotsOk,Bool.and_eq_true,List.all_eq_true]at hs;obtain⟨hall,hl⟩:=hs;unfold look at h1 h2;have key:∀{z:Nat},look l z=some q->False:=λ{z} hz=>by have:=hall _ (mZ hz);simp only[Bool.not_eq_true']at this;rw[aD.2 rfl]at this;cases this.2
  cases b1:Nat.beq s t with
  |true=>
   rw[b1]at h1;simp only[cond,Option.some.injEq]at h1;cases b2:Nat.beq s u with
   |true=>rw[<-Nat.eq_of_beq_eq_true b1,<-Nat.eq_of_beq_eq_true b2]
   |false=>rw[b2]at h2;subst h1;exact(key h2).elim
  |false=>
   rw[b1]at h1;cases b2:Nat.beq s u with
   |true=>rw[b2]at h2;simp only[cond,Option.some.injEq]at h2;subst h2;exact(key h1).elim
   |false=>rw[b2]at h2;exact ih hl h1 h2
theorem gy{tm:Array Value}{t:Nat}{v:Value}(h:t<tm.size):(tm.setIfInBounds t v).getD t undef=v:=by simp[Array.getD_eq_getD_getElem?,h]
theorem d_{tm:Array Value}{t u:Nat}{v:Value}(h:t≠u):(tm.setIfInBounds t v).getD u undef=tm.getD u undef:=by simp[Array.getD_eq_getD_getElem?,h]
theorem EnvOk.free{tm:Array Value}(he:EnvOk ρ ω S e tm){t:Nat}(ht:look S t=none)(v:Value):EnvOk ρ ω S e (tm.setIfInBounds t v):=by intro u p hp;rw[d_ (λh=>by subst h;rw[ht]at hp;cases hp)];exact he u p hp
theorem EnvOk.slot{tm:Array Value}(hs:slotsOk S=true)(he:EnvOk ρ ω S e tm){t:Nat}{p:Pth}(ht:look S t=some p)(hn:t<tm.size){x:AVal}{v:Value}(hv:VR ρ ω x v):EnvOk ρ ω S (e.put .bad x p) (tm.setIfInBounds t v):=by
 intro u q hq;by_cases h:t=u
 .subst h;rw[ht]at hq;simp only[Option.some.injEq]at hq;subst hq;rw[aL,gy hn];exact hv
 .rw[d_ h,aG _ _ (λh'=>h (by subst h';exact jV hs ht hq))];exact he u q hq
structure CtxI(G:Ctx):Prop where
 uniq:(G.g.map Prod.fst).Nodup
 nol:∀t i,(t,Src.cp (.l i))∉G.g
theorem CtxI.start:CtxI ⟨[],0⟩:=⟨List.nodup_nil,λ_ _ h=>by cases h⟩
theorem CtxOk.start{tm:Array Value}:CtxOk ρ ω ⟨[],0⟩ [] e tm:=⟨rfl,λ_ _ h=>(by cases h),λ_ _ h=>(by cases h)⟩
theorem CtxOk.mono{ρ':Rho}(hs:Sub ρ ρ'){tm:Array Value}(h:CtxOk ρ ω G L e tm):CtxOk ρ' ω G L e tm:=⟨h.len,h.lev,λt s hl=>(h.ok t s hl).mono hs⟩
theorem dA{l:List (Nat×Src)}{t:Nat}{s:Src}(h:lookG l t=some s):(t,s)∈l:=by
 induction l with
 |nil=>cases h
 |cons x l ih=>
  obtain⟨u,q⟩:=x;unfold lookG at h;cases hb:Nat.beq u t with
  |true=>rw[hb]at h;simp only[cond,Option.some.injEq]at h;rw[<-Nat.eq_of_beq_eq_true hb,h];exact List.mem_cons_self ..
  |false=>rw[hb]at h;exact List.mem_cons_of_mem _ (ih h)
theorem eY{l:List (Nat×Src)}(hu:(l.map Prod.fst).Nodup){t:Nat}{s:Src}(h:(t,s)∈l):lookG l t=some s:=by
 induction l with
 |nil=>cases h
 |cons x l ih=>
  obtain⟨u,q⟩:=x;simp only[List.map_cons,List.nodup_cons]at hu;unfold lookG;rcases List.mem_cons.1 h with h|h
  .simp only[Prod.mk.injEq]at h;obtain⟨rfl,rfl⟩:=h;have:Nat.beq t t=true:=by rw[Nat.beq_eq]
   rw[this];rfl
  .have hne:Nat.beq u t=false:=by
    cases hb:Nat.beq u t with
    |false=>rfl
    |true=>exact absurd (List.mem_map.2 ⟨(t,s),h,(Nat.eq_of_beq_eq_true hb).symm⟩) hu.1
   rw[hne];exact ih hu.2 h
theorem cD{t:Nat}{q:Option Pth}{l:List (Nat×Src)}{u:Nat}{s:Src}(h:(u,s)∈forget t q l):(u,s)∈l/\t≠u/\∀p,q=some p->isSlot p s=false:=by
 unfold forget at h;rw[List.mem_filter]at h;obtain⟨h1,h2⟩:=h;simp only[Bool.and_eq_true,Bool.not_eq_true']at h2;refine⟨h1,λh=>?_,λp hp=>?_⟩
 .subst h;have:Nat.beq t t=true:=by rw[Nat.beq_eq]
  rw[this]at h2;cases h2.1
 .subst hp;simpa using h2.2
theorem m_{t:Nat}{q:Option Pth}{l:List (Nat×Src)}:((forget t q l).map Prod.fst).Sublist (l.map Prod.fst):=(List.filter_sublist ..).map _
theorem ua{t:Nat}{q:Option Pth}{l:List (Nat×Src)}:t∉(forget t q l).map Prod.fst:=by intro h;obtain⟨⟨u,s⟩,h1,rfl⟩:=List.mem_map.1 h;exact(cD h1).2.1 rfl
theorem CtxI.forget(h:CtxI G)(t:Nat)(q:Option Pth)(m:Nat):CtxI ⟨forget t q G.g,m⟩:=⟨h.uniq.sublist m_,λu i hm=>h.nol u i (cD hm).1⟩
theorem CtxI.cons(h:CtxI G)(t:Nat)(s:Src)(hs:∀i,s≠.cp (.l i))(m:Nat):CtxI ⟨(t,s)::Ex.forget t none G.g,m⟩:=by
 refine⟨?_,λu i hm=>?_⟩
 .simp only[List.map_cons,List.nodup_cons];exact⟨ua,h.uniq.sublist m_⟩
 .rcases List.mem_cons.1 hm with hm|hm
  .simp only[Prod.mk.injEq]at hm;exact hs i hm.2.symm
  .exact h.nol u i (cD hm).1
theorem jW{tm:Array Value}(h:CtxOk ρ ω G L e tm)(hi:CtxI G){t:Nat}{s:Src}(hm:(t,s)∈G.g):VR ρ ω ((s.opd G.m).ev L e) (tm.getD t undef):=h.ok t s (eY hi.uniq hm)
theorem CtxOk.slot{tm:Array Value}(hi:CtxI G)(h:CtxOk ρ ω G L e tm)(t:Nat)(p:Pth)(x:AVal)(v:Value):CtxOk ρ ω ⟨forget t (some p) G.g,G.m⟩ L (e.put .bad x p) (tm.setIfInBounds t v):=by
 refine⟨h.len,λu n hl=>?_,λu s hl=>?_⟩<;>simp only at hl
 .exact h.lev u n (eY hi.uniq (cD (dA hl)).1)
 .obtain⟨h1,h2,h3⟩:=cD (dA hl);have h3:=h3 p rfl;have h4:=jW h hi h1;rw[d_ h2]
  have:((s.opd G.m).ev L (e.put .bad x p))=(s.opd G.m).ev L e:=by
   cases s with
   |lev n=>rfl
   |cp c=>cases c with
    |l i=>rfl
    |k v=>rfl
    |t q=>show(e.put .bad x p).get .bad q=e.get .bad q;refine aG _ _ (λhpq=>?_) _;subst hpq;simp only[isSlot,aD.2]at h3;cases h3
  rw[this];exact h4
theorem ub{m n:Nat}(h:n<m):ixN (m-n)=.s (ixN (m-1-n)):=by rw[show m-n=(m-1-n)+1 by omega];rfl
theorem CtxOk.push{tm:Array Value}(hi:CtxI G)(h:CtxOk ρ ω G L e tm){t:Nat}(ht:t<tm.size){x:AVal}{v:Value}(hv:VR ρ ω x v):CtxOk ρ ω ⟨(t,.lev G.m)::forget t none G.g,Nat.succ G.m⟩ (x::L) e (tm.setIfInBounds t v):=by
 have hI:=hi.cons t (.lev G.m) (by simp) (Nat.succ G.m);refine⟨by simp[h.len],λu n hl=>?_,λu s hl=>?_⟩
 .rcases List.mem_cons.1 (dA hl)with hm|hm
  .simp only[Prod.mk.injEq,Src.lev.injEq]at hm;rw[hm.2];exact Nat.lt_succ_self _
  .exact Nat.lt_succ_of_lt (h.lev u n (eY hi.uniq (cD hm).1))
 .rcases List.mem_cons.1 (dA hl)with hm|hm
  .simp only[Prod.mk.injEq]at hm;obtain⟨rfl,rfl⟩:=hm;rw[gy ht];show VR ρ ω (getL (ixN (Nat.succ G.m-1-G.m)) (x::L)) v;rw[show Nat.succ G.m-1-G.m=0 by omega];exact hv
  .obtain⟨h1,h2,_⟩:=cD hm;rw[d_ h2];have h4:=jW h hi h1;cases s with
   |lev n=>have hn:=h.lev u n (eY hi.uniq h1);show VR ρ ω (getL (ixN (Nat.succ G.m-1-n)) (x::L)) _;rw[show Nat.succ G.m-1-n=G.m-n by omega,ub hn];exact h4
   |cp c=>cases c with
    |l i=>exact(hi.nol u i h1).elim
    |k v=>exact h4
    |t q=>exact h4
theorem CtxOk.copy{tm:Array Value}(hi:CtxI G)(h:CtxOk ρ ω G L e tm){t:Nat}(ht:t<tm.size){s:Src}(hl:∀n,s=.lev n->n<G.m){v:Value}(hv:VR ρ ω ((s.opd G.m).ev L e) v):CtxOk ρ ω ⟨(t,s)::forget t none G.g,G.m⟩ L e (tm.setIfInBounds t v):=by
 refine⟨h.len,λu n hl'=>?_,λu s' hl'=>?_⟩
 .rcases List.mem_cons.1 (dA hl')with hm|hm
  .simp only[Prod.mk.injEq]at hm;exact hl n hm.2.symm
  .exact h.lev u n (eY hi.uniq (cD hm).1)
 .rcases List.mem_cons.1 (dA hl')with hm|hm
  .simp only[Prod.mk.injEq]at hm;obtain⟨rfl,rfl⟩:=hm;rw[gy ht];exact hv
  .obtain⟨h1,h2,_⟩:=cD hm;rw[d_ h2];exact jW h hi h1
structure RegOk(ρ:Rho)(ω:Nat->Value)(N:Nat)(S:List (Nat×Pth))(G:Ctx)(L:List AVal)(e:T8 AVal)(a:Act):Prop where
 env:EnvOk ρ ω S e a.tmps
 ctx:CtxOk ρ ω G L e a.tmps
 ctxI:CtxI G
 size:a.tmps.size=N
theorem RegOk.mono{ρ':Rho}(hs:Sub ρ ρ')(h:RegOk ρ ω N S G L e a):RegOk ρ' ω N S G L e a:=⟨h.env.mono hs,h.ctx.mono hs,h.ctxI,h.size⟩
theorem gz(a:Act)(dst:Option Tmp)(v:Value):(a.put dst v).tmps.size=a.tmps.size:=by cases dst<;>simp[Act.put]
theorem put_defers(a:Act)(dst:Option Tmp)(v:Value):(a.put dst v).defers=a.defers:=by cases dst<;>rfl
theorem RegOk.put(hs:slotsOk S=true)(h:RegOk ρ ω N S G L e a){dst:Option Tmp}{d:Dst}(hd:cDst N S G dst=some (d,G')){x:AVal}{v:Value}(hv:VR ρ ω x v):RegOk ρ ω N S G' (setL L d x) (setE e d x) (a.put dst v):=by
 have hsz:=h.size;cases dst with
 |none=>simp only[cDst,Option.some.injEq,Prod.mk.injEq]at hd;obtain⟨rfl,rfl⟩:=hd;exact h
 |some t=>
  simp only[cDst]at hd;cases hb:Nat.blt t N with
  |false=>rw[hb]at hd;cases hd
  |true=>
   rw[hb]at hd;simp only[cond]at hd;have ht:t<a.tmps.size:=by rw[hsz];exact Nat.le_of_ble_eq_true hb
   cases hl:look S t with
   |some p=>rw[hl]at hd;simp only[Option.some.injEq,Prod.mk.injEq]at hd;obtain⟨rfl,rfl⟩:=hd;exact⟨h.env.slot hs hl ht hv,h.ctx.slot h.ctxI t p x v,h.ctxI.forget t _ _,by rw[gz];exact hsz⟩
   |none=>rw[hl]at hd;simp only[Option.some.injEq,Prod.mk.injEq]at hd;obtain⟨rfl,rfl⟩:=hd;exact⟨h.env.free hl v,h.ctx.push h.ctxI ht hv,h.ctxI.cons t _ (by simp) _,by rw[gz];exact hsz⟩
theorem uc(hg:GlobOk P ρ)(h:RegOk ρ ω N S G L e a){x:Operand}{s:Src}(hx:srcOf P N S G x=some s):VR ρ ω ((s.opd G.m).ev L e) (a.eval x)/\(∀n,s=.lev n->n<G.m)/\∀i,s≠.cp (.l i):=by
 cases x with
 |tmp t=>
  simp only[srcOf]at hx;cases hb:Nat.blt t N with
  |false=>rw[hb]at hx;cases hx
  |true=>
   rw[hb]at hx;simp only[cond]at hx;cases hl:lookG G.g t with
   |some q=>rw[hl]at hx;simp only[Option.some.injEq]at hx;subst hx;exact⟨h.ctx.ok t q hl,λn hn=>h.ctx.lev t n (by rw[hl,hn]),λi hi=>h.ctxI.nol t i (by rw[<-hi];exact dA hl)⟩
   |none=>rw[hl]at hx;simp only[Option.map_eq_some_iff]at hx;obtain⟨p,hp,rfl⟩:=hx;exact⟨h.env t p hp,λn hn=>(by cases hn),λi hi=>(by cases hi)⟩
 |const v=>simp only[srcOf,Option.map_eq_some_iff]at hx;obtain⟨y,hy,rfl⟩:=hx;exact⟨dV hy,λn hn=>(by cases hn),λi hi=>(by cases hi)⟩
 |global g=>
  simp only[srcOf]at hx;cases hb:Nat.blt g P.globals.size with
  |false=>rw[hb]at hx;cases hx
  |true=>rw[hb]at hx;simp only[cond,Option.some.injEq]at hx;subst hx;obtain⟨i,hi,h1,h2⟩:=hg g (Nat.le_of_ble_eq_true hb);have:=VR.ptr (ρ:=ρ) (ω:=ω) (key g) 0 i hi;rw[h1,h2]at this;exact⟨this,λn hn=>(by cases hn),λi hi=>(by cases hi)⟩
 |func f=>simp only[srcOf,Option.some.injEq]at hx;subst hx;exact⟨.fnv f [] [] .nil,λn hn=>(by cases hn),λi hi=>(by cases hi)⟩
theorem RegOk.copy(hg:GlobOk P ρ)(h:RegOk ρ ω N S G L e a){t:Nat}(ht:Nat.blt t N=true)(hl:look S t=none){x:Operand}{s:Src}(hx:srcOf P N S G x=some s):RegOk ρ ω N S ⟨(t,s)::forget t none G.g,G.m⟩ L e (a.put (some t) (a.eval x)):=by
 obtain⟨h1,h2,h3⟩:=uc hg h hx;have ht':t<a.tmps.size:=by rw[h.size];exact Nat.le_of_ble_eq_true ht
 exact⟨h.env.free hl _,h.ctx.copy h.ctxI ht' h2 h1,h.ctxI.cons t s h3 _,by rw[gz];exact h.size⟩
theorem nc(l:List CO):(Ops.ofL l).toL=l:=by
 induction l with
 |nil=>rfl
 |cons o l ih=>
  unfold Ops.ofL
  split<;>first
   |rfl
   |(simp_all [Ops.toL])
end Go.Ex
namespace Go.Ex
open Go
variable{P:Program}{ρ:Rho}{ω:Nat->Value}{H:AH}{w:World}
variable{a:Act}{N:Nat}{S:List (Nat×Pth)}{A:List Nat}{G G':Ctx}{L:List AVal}{e:T8 AVal}
def FF(ro:Option Nat):Fence:={Fence.wide with round:=ro}
theorem ud{ro:Option Nat}{n:Nat}{f:FuncId}{args:Array Value}{R:Ending->World->Prop}(h:CallsIn Fence.wide n P f args w R):CallsIn (FF ro) n P f args w R:=h
theorem ue{ro:Option Nat}{n l:Nat}{f:FuncId}{tmps:Array Value}{as bd:Code}{R:Ending->World->Prop}(h:RoundIn Fence.wide n P l f tmps as bd w R):RoundIn (FF ro) n P l f tmps as bd w R:=h
inductive CallOk(P:Program)(w:World)(vals:List Value)(R:Value->World->Prop):Value->Prop where
 |fn (f:Nat) (caps:List Value) (fn:Func) (hf:P.funcs[f]?=some fn) (hn:(fn.name== "runtime.NumGoroutine")=false) (hb:fn.body.isNone=false)
  (h:CallsIn Fence.wide 0 P f (vals++caps).toArray w λ|.returned v,w'=>R v w'|_,_=>False):CallOk P w vals R (.func (.func f) #[] caps.toArray)
 |yield (l:Nat) (f:FuncId) (tmps:Array Value) (as bd:Code) (hy:(Instr.yield l vals.toArray).run P w=.ok (.round l f tmps as bd) w)
  (h:RoundIn Fence.wide 0 P l f tmps as bd w λ|.returned v,w'=>R v w'|_,_=>False):CallOk P w vals R (.func (.yield l) #[] #[])
theorem CallOk.mono{vals:List Value}{R R':Value->World->Prop}{g:Value}(h:CallOk P w vals R g)(hr:∀v w',R v w'->R' v w'):CallOk P w vals R' g:=by
 cases h with
 |fn f caps fn hf hn hb h=>exact .fn f caps fn hf hn hb (h.mono λe w' he=>by cases e<;>first|exact hr _ _ he|exact he)
 |yield l f tmps as bd hy h=>exact .yield l f tmps as bd hy (h.mono λe w' he=>by cases e<;>first|exact hr _ _ he|exact he)
def CallerOk(P:Program)(ω:Nat->Value)(call:Caller):Prop:=
 ∀{g:AVal} {args:List AVal} {H:AH} {v:AVal} {H':AH} {ρ:Rho} {w:World} {g':Value} {vals:List Value},call g args H=.ok v H'->HR P ρ ω H w->GlobOk P ρ->VR ρ ω g g'->All2 (VR ρ ω) args vals->
  CallOk P w vals (λv' w'=>∃ρ',VR ρ' ω v v'/\Step P ρ ω H w ρ' H' w') g'
theorem uf(P:Program)(w:World){g:Value}{vals:List Value}{R:Value->World->Prop}(h:CallOk P w vals R g){ev:Operand->Value}{c:Call}{x:Operand}(hc:c.callee=.value x)(hx:ev x=g)(hv:(c.args.map ev)=vals.toArray)(type:TypeId) :
 ∃nx,(do let d <-resolve ev c type;invoke d.target d.args:Sem Next).run P w=.ok nx w/\
  (
   (∃f as,nx=.enter f as/\CallsIn Fence.wide 0 P f as w λ|.returned v,w'=>R v w'|_,_=>False)\/
   (∃l f tmps as bd,nx=.round l f tmps as bd/\RoundIn Fence.wide 0 P l f tmps as bd w λ|.returned v,w'=>R v w'|_,_=>False)):=by
 subst hx;simp only[resolve,hc,hv];generalize ev x=g at h⊢;cases h with
 |fn f caps fn hf hn hb h=>refine⟨.enter f (vals++caps).toArray,?_,.inl ⟨_,_,rfl,h⟩⟩;simp only[Deferred.ofValue,invoke,callFunc,Sem.run_bind,Sem.run_pure,Result.andThen_ok,run_program,hf,hn,hb,Bool.false_eq_true,if_false,List.append_toArray,List.nil_append]
 |yield l f tmps as bd hy h=>refine⟨.round l f tmps as bd,?_,.inr ⟨_,_,_,_,_,rfl,h⟩⟩;simp[Deferred.ofValue,invoke,hy]
theorem nf(hω:∀i,(ω i).oneCell'=true){call:Caller}(hcall:CallerOk P ω call)(hr:HR P ρ ω H w)(hg:GlobOk P ρ)(he:EnvOk ρ ω S e a.tmps)(hc:CtxOk ρ ω G L e a.tmps){o:Oper}{cop:COp}(hcop:cOp P N S G o.op=some cop){v:AVal}{H':AH}(hdo:doOp call cop L e H=.ok v H'){ro:Option Nat}{next:Act->World->Prop}{Q:Exit->Act->World->Prop}(hnext:∀ρ' v' w',VR ρ' ω v v'->Step P ρ ω H w ρ' H' w'->next (a.put o.dst v') w'):o.wpIn (FF ro) 0 P a w next Q:=by
 refine⟨λ_ _=>trivial,?_⟩;have hnd:∀c,o.op≠.defer c:=by intro c h;rw[h]at hcop;simp only[cOp]at hcop;cases hcop
 rw[Oper.semAt_eq _ _ _ hnd]
 have fin:OpRes P ρ ω H w v H' (execOp a.eval o)->o.uponIn (FF ro) 0 P a next Q ((execOp a.eval o).run P w):=by
  rintro⟨ρ',r,w',h1,h2,h3⟩;rw[h1];rcases h2 with⟨v',rfl,h4⟩|⟨rfl,rfl⟩
  .exact hnext ρ' v' w' h4 h3
  .exact hnext ρ' undef w' (.tup [] [] .nil) h3
 cases hop:o.op with
 |call c=>
  cases hcal:c.callee with
  |builtin b=>exact fin (t_ hr hg he hc hop hcal hcop hdo)
  |invoke r name=>rw[hop]at hcop;simp only[cOp,cCall,hcal]at hcop;cases hcop
  |value x=>
   have key:CallOk P w (c.args.toList.map a.eval) (λv' w'=>∃ρ',VR ρ' ω v v'/\Step P ρ ω H w ρ' H' w') (a.eval x):=by
    rw[hop]at hcop;simp only[cOp,cCall,hcal]at hcop;have gen:∀{gv},(cOpd P N S G x).bind (λg=>(cOpds P N S G c.args.toList).map (.callv g))=some gv->doOp call gv L e H=.ok v H'->CallOk P w (c.args.toList.map a.eval) (λv' w'=>∃ρ',VR ρ' ω v v'/\Step P ρ ω H w ρ' H' w') (a.eval x):=by intro gv hgv hd2;simp only[Option.bind_eq_some_iff,Option.map_eq_some_iff]at hgv;obtain⟨g,h0,cs,h1,rfl⟩:=hgv;exact hcall hd2 hr hg (bG hg he hc h0) (eU hg he hc h1)
    cases x with
    |func f=>simp only[Option.map_eq_some_iff]at hcop;obtain⟨cs,h1,rfl⟩:=hcop;exact hcall hdo hr hg (.fnv f [] [] .nil) (eU hg he hc h1)
    |tmp t=>exact gen hcop hdo
    |const v=>exact gen hcop hdo
    |global g=>exact gen hcop hdo
   have hrun:execOp a.eval o=(do let d <-resolve a.eval c o.type;invoke d.target d.args:Sem Next):=by simp only[execOp,hop]
   rw[hrun];obtain⟨nx,h1,h2⟩:=uf P w key hcal rfl (cC rfl _) o.type;rw[h1];rcases h2 with⟨f,as,rfl,h3⟩|⟨l,f,tmps,as,bd,rfl,h3⟩
   .rw[Oper.uponIn_enter];refine⟨λh=>(by cases h),ud (h3.mono λe w' hh=>?_)⟩;cases e with
    |returned v'=>obtain⟨ρ',h4,h5⟩:=hh;exact hnext ρ' v' w' h4 h5
    |panicked c=>exact hh.elim
    |outgrown=>exact hh.elim
   .rw[Oper.uponIn_round];refine⟨λh=>(by cases h),ue (h3.mono λe w' hh=>?_)⟩;cases e with
    |returned v'=>obtain⟨ρ',h4,h5⟩:=hh;exact hnext ρ' v' w' h4 h5
    |panicked c=>exact hh.elim
    |outgrown=>exact hh.elim
 |_=>exact fin (tZ hω hr hg he hc (by rw[hop];rfl) hcop hdo)
theorem ug{b c:Bool}(h:boolEq c b=false):(some c==some b)=false:=by revert b c;decide
theorem ng(hg:GlobOk P ρ)(he:EnvOk ρ ω S e a.tmps)(hc:CtxOk ρ ω G L e a.tmps){ops:Array Oper}{o:Oper}{g:Option (COpd×Bool)}(h:cGuard P N S G ops o.guard=some g):(wants L e g=.go->Region.wanted o (yielded ops a.tmps)=true)/\(wants L e g=.skip->Region.wanted o (yielded ops a.tmps)=false):=by
 cases hgd:o.guard with
 |none=>rw[hgd]at h;simp only[cGuard,Option.some.injEq]at h;subst h;exact⟨λ_=>by simp[Region.wanted,hgd],λh=>by cases h⟩
 |some jb=>
  obtain⟨j,b⟩:=jb;rw[hgd]at h;simp only[cGuard]at h;split at h
  .rename_i t ht;simp only[Option.map_eq_some_iff]at h;obtain⟨x,hx,rfl⟩:=h;have hv:=bG hg he hc hx;have hev:a.eval (.tmp t)=a.tmps.getD t undef:=rfl
   have hy:yielded ops a.tmps j=match a.tmps.getD t undef with|.bool b=>some b|_=>none:=by
    unfold yielded;rw[ht,Option.bind_some,Array.getD_eq_getD_getElem?];cases a.tmps[t]? with
    |none=>rfl
    |some v=>cases v<;>rfl
   rw[hev]at hv;unfold wants Region.wanted;simp only[hgd,hy];generalize a.tmps.getD t undef=u at hv⊢;generalize x.ev L e=xv at hv⊢;cases hv with
   |bool c=>
    simp only;have:=jG c b;cases hb:boolEq c b with
    |true=>rw[hb]at this;simp only[cond];refine⟨λ_=>?_,λh=>by cases h⟩;have:=eq_of_beq this.symm;subst this;simp
    |false=>rw[hb]at this;simp only[cond];exact⟨λh=>(by cases h),λ_=>ug hb⟩
   |tup l vs hl=>
    cases l with
    |nil=>simp only;exact⟨λh=>(by cases h),λ_=>rfl⟩
    |cons x l=>exact⟨λh=>(by cases h),λh=>(by cases h)⟩
   |_=>exact⟨λh=>(by cases h),λh=>(by cases h)⟩
  .cases h
structure DefOk(base:Nat)(ρ:Rho)(H:AH)(w:World)(ds:List Deferred):Prop where
 ok:∀d∈ds,∃r,d={target:=.collected r,args:=#[]}/\base<=r/\r<w.heap.size/\w.heap[r]?=some (.deferred (some []))/\¬Img ρ H r
 nodup:ds.Nodup
theorem DefOk.step{base:Nat}{ρ':Rho}{H':AH}{w':World}{ds:List Deferred}(h:DefOk base ρ H w ds)(hs:Step P ρ ω H w ρ' H' w'):DefOk base ρ' H' w' ds:=by refine⟨λd hd=>?_,h.nodup⟩;obtain⟨r,h1,h2,h3,h4,h5⟩:=h.ok d hd;exact⟨r,h1,h2,Nat.lt_of_lt_of_le h3 hs.size,(hs.keep r h3 λhi=>h5 hi.al).trans h4,λhi=>h5 (hs.al r h3 hi)⟩
theorem uh(hω:∀i,(ω i).oneCell'=true){call:Caller}(hcall:CallerOk P ω call)(hS:slotsOk S=true){ops:Array Oper}{ro:Option Nat}{base:Nat}{ds:List Deferred}{Q:Exit->Act->World->Prop}
 (l:List Oper):∀(i:Nat) (_:ops.toList.drop i=l) (G:Ctx) {r:List CO} {G':Ctx} (_:cOpers P N S A ops G l=some (r,G')) {ρ:Rho} {H:AH} {w:World} {L:List AVal} {e:T8 AVal} {a:Act}
  (_:HR P ρ ω H w) (_:GlobOk P ρ) (_:RegOk ρ ω N S G L e a) (_:a.defers=ds) (_:DefOk base ρ H w ds) {L':List AVal} {e':T8 AVal} {H':AH} (_:runOps call r L e H=.ok L' e' H')
  (_:∀ρ' a' w',Step P ρ ω H w ρ' H' w'->RegOk ρ' ω N S G' L' e' a'->a'.defers=ds->DefOk base ρ' H' w' ds->GlobOk P ρ'->Q .normal a' w'),
  wpOpsIn (FF ro) 0 P ops Q (List.range' i l.length) a w:=by
 induction l with
 |nil=>intro i hl G r G' hcomp ρ H w L e a hr hg hreg hds hdef L' e' H' hrun hQ;simp only[cOpers,Option.some.injEq,Prod.mk.injEq]at hcomp;obtain⟨rfl,rfl⟩:=hcomp;simp only[runOps,OutL.ok.injEq]at hrun;obtain⟨rfl,rfl,rfl⟩:=hrun;exact hQ ρ a w (.refl hr) hreg hds hdef hg
 |cons o l ih=>
  intro i hl G r G' hcomp ρ H w L e a hr hg hreg hds hdef L' e' H' hrun hQ;simp only[cOpers,Option.bind_eq_some_iff]at hcomp;obtain⟨⟨ao,G1⟩,h1,⟨r1,G2⟩,h2,h3⟩:=hcomp;simp only[Option.some.injEq,Prod.mk.injEq]at h3;obtain⟨rfl,rfl⟩:=h3;have ho:ops[i]?=some o:=by rw[<-Array.getElem?_toList,<-List.head?_drop,hl];rfl
  have hl':ops.toList.drop (i+1)=l:=by rw[<-List.drop_drop,hl];rfl
  rw[List.length_cons,List.range'_succ];simp only[wpOpsIn,ho];simp only[cOper,Option.bind_eq_some_iff]at h1;obtain⟨g,hgd,⟨d,Gd⟩,hd,h1⟩:=h1;obtain⟨hgo,hskip⟩:=ng hg hreg.env hreg.ctx hgd
  have main:ao=some ⟨d,(cOp P N S G o.op).getD .bad,g⟩->G1=Gd->if Region.wanted o (yielded ops a.tmps)=true then o.wpIn (FF ro) 0 P a w (wpOpsIn (FF ro) 0 P ops Q (List.range' (i+1) l.length)) Q
   else(∀f,o.about P w a.eval=some f->(FF ro).fn f)/\wpOpsIn (FF ro) 0 P ops Q (List.range' (i+1) l.length) (a.put o.dst undef) w:=by
   rintro rfl rfl;simp only[consO,runOps]at hrun;cases hw:wants L e g with
   |no=>rw[hw]at hrun;cases hrun
   |skip=>rw[hw]at hrun;rw[if_neg (by rw[hskip hw];simp)];refine⟨λ_ _=>trivial,?_⟩;have hv:VR ρ ω undefV undef:=.tup [] [] .nil;exact ih (i+1) hl' _ h2 hr hg (hreg.put hS hd hv) (by rw[put_defers];exact hds) hdef hrun hQ
   |go=>
    rw[hw]at hrun;rw[if_pos (hgo hw)];cases hco:cOp P N S G o.op with
    |none=>rw[hco]at hrun;cases hrun
    |some cop=>
     rw[hco]at hrun;simp only[Option.getD_some]at hrun;cases hdo:doOp call cop L e H with
     |no=>rw[hdo]at hrun;cases hrun
     |ok v H1=>
      rw[hdo]at hrun;refine nf hω hcall hr hg hreg.env hreg.ctx hco hdo λρ' v' w' hv hst=>?_
      have hg':GlobOk P ρ':=λk hk=>let ⟨b,x,y⟩:=hg k hk;⟨b,hst.sub _ _ x,y⟩
      refine ih (i+1) hl' _ h2 hst.hr hg' ((hreg.mono hst.sub).put hS hd hv) (by rw[put_defers];exact hds) (hdef.step hst) hrun λρ2 a2 w2 hs2=>?_
      exact hQ ρ2 a2 w2 (hst.trans hs2)
  split at h1
  .rename_i t x hpu hdst hcp;have hpu:d=.push:=hpu;subst hpu;cases hin:isIn t A with
   |true=>rw[hin]at h1;simp only[cond,Option.some.injEq,Prod.mk.injEq]at h1;exact main h1.1.symm h1.2.symm
   |false=>
    rw[hin]at h1;simp only[cond,Option.some.injEq,Prod.mk.injEq]at h1;obtain⟨rfl,rfl⟩:=h1
    have hpush:Nat.blt t N=true/\look S t=none:=by
     rw[hdst]at hd;simp only[cDst]at hd;cases hb:Nat.blt t N with
     |false=>rw[hb]at hd;cases hd
     |true=>
      rw[hb]at hd;simp only[cond]at hd;cases hlk:look S t with
      |some p=>rw[hlk]at hd;simp at hd
      |none=>exact⟨rfl,rfl⟩
    simp only[consO]at hrun
    have hcopy:∀y,srcOf P N S G y=some x->o.guard=none->(o.op=.move y\/o.op=.assign y)->
     if Region.wanted o (yielded ops a.tmps)=true then o.wpIn (FF ro) 0 P a w (wpOpsIn (FF ro) 0 P ops Q (List.range' (i+1) l.length)) Q
     else(∀f,o.about P w a.eval=some f->(FF ro).fn f)/\wpOpsIn (FF ro) 0 P ops Q (List.range' (i+1) l.length) (a.put o.dst undef) w:=by
     intro y hy hgn hoy;rw[if_pos (by simp[Region.wanted,hgn])];refine⟨λ_ _=>trivial,?_⟩;rw[Oper.semAt_eq _ _ _ (λc h=>by rcases hoy with h'|h'<;>rw[h']at h<;>cases h)];have hrun2:(execOp a.eval o).run P w=.ok (.value (a.eval y)) w:=by rcases hoy with h'|h'<;>simp[execOp,h']
     rw[hrun2,Oper.uponIn_value,hdst];exact ih (i+1) hl' _ h2 hr hg (hreg.copy hg hpush.1 hpush.2 hy) (by rw[put_defers];exact hds) hdef hrun hQ
    unfold isCopy at hcp;split at hcp
    .rename_i y hgn hop;exact hcopy y hcp hgn (.inl hop)
    .rename_i y hgn hop;exact hcopy y hcp hgn (.inr hop)
    .cases hcp
  .simp only[Option.some.injEq,Prod.mk.injEq]at h1;exact main h1.1.symm h1.2.symm
end Go.Ex
namespace Go.Ex
open Go
variable{P:Program}{ρ:Rho}{ω:Nat->Value}{H:AH}{w:World}
variable{a:Act}{N:Nat}{S:List (Nat×Pth)}{A:List Nat}{G G':Ctx}{L:List AVal}{e:T8 AVal}
theorem ui(l r:List AVal):app l r=l++r:=by
 induction l with
 |nil=>rfl
 |cons a l ih=>show a::app l r=_;rw[ih];rfl
theorem nh(S:List (Nat×Pth))(i n:Nat):(cParams S i n).length=n:=by
 induction n generalizing i with
 |zero=>rfl
 |succ n ih=>simp only[cParams,List.length_cons,ih]
theorem ni{ps:List (Option Pth)}{vs:List AVal}{e e':T8 AVal}(h:mkEnv ps vs e=some e'):ps.length=vs.length:=by
 induction ps generalizing vs e with
 |nil=>cases vs with
  |nil=>rfl
  |cons v vs=>cases h
 |cons p ps ih=>cases vs with
  |nil=>cases p<;>cases h
  |cons v vs=>
   cases p with
   |none=>simp only[mkEnv]at h;simp only[List.length_cons,ih h]
   |some p=>simp only[mkEnv]at h;simp only[List.length_cons,ih h]
theorem uj(hS:slotsOk S=true){vs0:List Value}{n:Nat}:∀{i:Nat} {vs:List AVal} {e e':T8 AVal},All2 (VR ρ ω) vs (vs0.drop i)->mkEnv (cParams S i n) vs e=some e'->(∀t p,look S t=some p->(t<i->VR ρ ω (e.get .bad p) (vs0.getD t undef))/\(i<=t->e.get .bad p=.bad))->∀t p,look S t=some p->(t<i+n->VR ρ ω (e'.get .bad p) (vs0.getD t undef))/\(i+n<=t->e'.get .bad p=.bad):=by
 induction n with
 |zero=>
  intro i vs e e' hvs h hi;cases vs with
  |nil=>simp only[cParams,mkEnv,Option.some.injEq]at h;subst h;exact hi
  |cons v vs=>cases h
 |succ n ih=>
  intro i vs e e' hvs h hi;cases vs with
  |nil=>simp only[cParams]at h;cases hl:look S i<;>rw[hl]at h<;>cases h
  |cons v vs=>
   have hd:∃v',vs0[i]?=some v'/\VR ρ ω v v'/\All2 (VR ρ ω) vs (vs0.drop (i+1)):=by
    generalize hq:vs0.drop i=q at hvs;cases hvs with
    |cons hv ht=>
     rename_i b r;refine⟨b,?_,hv,?_⟩
     .rw[<-List.head?_drop,hq];rfl
     .rw[<-List.drop_drop,hq];exact ht
   obtain⟨v',hv1,hv2,hvs'⟩:=hd;simp only[cParams]at h;have hgd:vs0.getD i undef=v':=by rw[List.getD_eq_getElem?_getD,hv1];rfl
   have hrest:∀e1,mkEnv (cParams S (i+1) n) vs e1=some e'->(∀t p,look S t=some p->(t<i+1->VR ρ ω (e1.get .bad p) (vs0.getD t undef))/\(i+1<=t->e1.get .bad p=.bad))->
    ∀t p,look S t=some p->(t<i+(n+1)->VR ρ ω (e'.get .bad p) (vs0.getD t undef))/\(i+(n+1)<=t->e'.get .bad p=.bad):=by
    intro e1 h1 h2 t p hp;have:=ih hvs' h1 h2 t p hp;rw[show i+(n+1)=i+1+n by omega];exact this
   cases hl:look S i with
   |none=>
    rw[hl]at h;refine hrest e h λt p hp=>?_
    have hne:t≠i:=λh=>by subst h;rw[hl]at hp;cases hp
    exact⟨λh=>(hi t p hp).1 (by omega),λh=>(hi t p hp).2 (by omega)⟩
   |some p0=>
    rw[hl]at h;refine hrest _ h λt p hp=>?_
    by_cases ht:t=i
    .subst ht;rw[hl]at hp;simp only[Option.some.injEq]at hp;subst hp;rw[aL,hgd];exact⟨λ_=>hv2,λh=>absurd h (by omega)⟩
    .rw[aG _ _ (λhpq=>ht (by subst hpq;exact jV hS hp hl))];exact⟨λh=>(hi t p hp).1 (by omega),λh=>(hi t p hp).2 (by omega)⟩
theorem uk(hS:slotsOk S=true){n N:Nat}{vs:List AVal}{vals:List Value}(hv:All2 (VR ρ ω) vs vals){e':T8 AVal}(h:mkEnv (cParams S 0 n) vs .nil=some e'):EnvOk ρ ω S e' (vals.toArray++Array.replicate (N-vals.toArray.size) undef):=by
 have hlen:=ni h;rw[nh]at hlen;have hlen2:=hv.length;intro t p hp;have:=uj (vs0:=vals) (i:=0) hS hv h (λt p _=>⟨λh=>absurd h (Nat.not_lt_zero _),λ_=>get_nil _ p⟩) t p hp;by_cases ht:t<n
 .have h1:=this.1 (by omega);have:(vals.toArray++Array.replicate (N-vals.toArray.size) undef).getD t undef=vals.getD t undef:=by rw[Array.getD_eq_getD_getElem?,List.getD_eq_getElem?_getD,Array.getElem?_append_left (by simp;omega),List.getElem?_toArray]
  rw[this];exact h1
 .rw[this.2 (by omega)];exact .bad _
theorem um(hS:slotsOk S=true):∀{ps:List Nat} {q:List Pth} {vs:List AVal} {vals:List Value} {e e':T8 AVal} {tm:Array Value},ps.mapM (look S)=some q->(∀t∈ps,t<tm.size)->All2 (VR ρ ω) vs vals->mkEnv (q.map some) vs e=some e'->EnvOk ρ ω S e tm->EnvOk ρ ω S e' ((ps.zip vals).foldl (λtmps (t,a)=>tmps.setIfInBounds t a) tm)/\((ps.zip vals).foldl (λtmps (t,a)=>tmps.setIfInBounds t a) tm).size=tm.size/\ps.length=vals.length:=by
 intro ps
 induction ps with
 |nil=>
  intro q vs vals e e' tm hq _ hv h he;simp only[List.mapM_nil,Option.pure_def,Option.some.injEq]at hq;subst hq;cases hv with
  |nil=>simp only[List.map_nil,mkEnv,Option.some.injEq]at h;subst h;exact⟨he,rfl,rfl⟩
  |cons _ _=>cases h
 |cons t ps ih=>
  intro q vs vals e e' tm hq hlt hv h he;simp only[List.mapM_cons,Option.bind_eq_bind,Option.bind_eq_some_iff,Option.pure_def,Option.some.injEq]at hq;obtain⟨p,hp,q',hq',rfl⟩:=hq;cases hv with
  |nil=>cases h
  |cons hv hvs=>
   rename_i v v' vs vals;simp only[List.map_cons,mkEnv]at h;have h1:=he.slot hS hp (hlt t (by simp)) hv;obtain⟨h2,h3,h4⟩:=ih hq' (λu hu=>by simpa using hlt u (by simp[hu])) hvs h h1;refine⟨?_,?_,?_⟩
   .simpa using h2
   .simpa using h3
   .simp[h4]
theorem uo(hr:HR P ρ ω H w){t:TypeId}{agg:Bool}{sz:Nat}(hagg:tAgg P t=some agg)(hsz:tSize P t=some sz){x v:AVal}{x':Value}(hx:VR ρ ω x x')(h:loadV H agg sz x=v)(hv:v≠.bad):∃v',(do loadVar t (<-asAddr x'):Sem Value).run P w=.ok v' w/\VR ρ ω v v':=by
 obtain⟨v',h1,h2⟩:=mA (P:=P) (w:=w) hr hagg hsz hx h hv;refine⟨v',?_,h2⟩;rw[<-h1];cases hx with
 |ptr id off i hi=>rfl
 |mptr n k b o len cap c hc hm hk=>rfl
 |_=>exact absurd h.symm hv
def resVal(tm:Array Value):ResultVar->Sem Value
 |.tmp t=>pure (tm.getD t undef)
 |.cell a t=>do loadVar t (<-asAddr (tm.getD a undef))
theorem nj{v:AVal}{l:List AVal}(h:anyBad (v::l)=false):v≠.bad/\anyBad l=false:=by cases v<;>first|(cases h;done)|exact⟨λh=>(by cases h),h⟩
theorem uq(hr:HR P ρ ω H w){tm:Array Value}(he:EnvOk ρ ω S e tm){rs:List ResultVar}:∀{res:List (Pth×Option (Bool×Nat))},cRes P N S rs=some res->anyBad (resultsV H e res)=false->∃vs,(rs.mapM (resVal tm)).run P w=.ok vs w/\All2 (VR ρ ω) (resultsV H e res) vs:=by
 induction rs with
 |nil=>intro res h _;simp only[cRes,Option.some.injEq]at h;subst h;exact⟨[],rfl,.nil⟩
 |cons r rs ih=>
  intro res h hb;cases r with
  |tmp t=>
   simp only[cRes]at h;cases hlt:Nat.blt t N with
   |false=>rw[hlt]at h;cases h
   |true=>rw[hlt]at h;simp only[cond,Option.bind_eq_some_iff,Option.some.injEq]at h;obtain⟨p,hp,l,hl,rfl⟩:=h;simp only[resultsV]at hb⊢;obtain⟨h1,h2⟩:=nj hb;obtain⟨vs,h3,h4⟩:=ih hl h2;refine⟨tm.getD t undef::vs,?_,.cons (he t p hp) h4⟩;simp only[List.mapM_cons,resVal,Sem.run_bind,Sem.run_pure,Result.andThen_ok,h3]
  |cell c t=>
   simp only[cRes]at h;cases hlt:Nat.blt c N with
   |false=>rw[hlt]at h;cases h
   |true=>rw[hlt]at h;simp only[cond,Option.bind_eq_some_iff,Option.some.injEq]at h;obtain⟨p,hp,g,hg,s,hs,l,hl,rfl⟩:=h;simp only[resultsV]at hb⊢;obtain⟨h1,h2⟩:=nj hb;obtain⟨vs,h3,h4⟩:=ih hl h2;obtain⟨v',h5,h6⟩:=uo (P:=P) (w:=w) hr hg hs (he c p hp) rfl h1;refine⟨v'::vs,?_,.cons h6 h4⟩;rw[List.mapM_cons,Sem.run_bind];show Result.andThen (Sem.run P (do loadVar t (<-asAddr (tm.getD c undef))) w) _=_;rw[h5,Result.andThen_ok,Sem.run_bind,h3,Result.andThen_ok,Sem.run_pure]
theorem ur{l:List AVal}{vs:List Value}(h:All2 (VR ρ ω) l vs):VR ρ ω (tupOf l) (if h:vs.toArray.size=1 then vs.toArray[0]else .tuple vs.toArray):=by
 cases h with
 |nil=>exact .tup [] [] .nil
 |cons hv ht=>
  cases ht with
  |nil=>exact hv
  |cons hv2 ht2=>rw[dif_neg (by simp)];exact .tup _ _ (.cons hv (.cons hv2 ht2))
theorem uu(hr:HR P ρ ω H w){tm:Array Value}(he:EnvOk ρ ω S e tm){fn:Func}{res:List (Pth×Option (Bool×Nat))}(hres:cRes P N S fn.results.toList=some res){v:AVal}{H':AH}(h:result H e res=.ok v H'):H'=H/\∃v',(results fn tm).run P w=.ok v' w/\VR ρ ω v v':=by
 unfold result at h;simp only at h;cases hb:anyBad (resultsV H e res)with
 |true=>rw[hb]at h;cases h
 |false=>
  rw[hb]at h;simp only[cond,R.ok.injEq]at h;obtain⟨rfl,rfl⟩:=h;obtain⟨vs,h1,h2⟩:=uq (P:=P) (w:=w) hr he hres hb;refine⟨rfl,_,?_,ur h2⟩;have hf:results fn tm=(do let vs <-fn.results.mapM (resVal tm);pure (if h:vs.size=1 then vs[0]else .tuple vs)):=by unfold results;refine congrArg (λ(f:ResultVar->Sem Value)=>(do let vs <-fn.results.mapM f;pure (if h:vs.size=1 then vs[0]else .tuple vs):Sem Value)) ?_;funext x;cases x<;>rfl
  rw[hf,Array.mapM_eq_mapM_toList];simp only[Sem.run_bind,Sem.run_map,h1];rfl
theorem HR.uv(hr:HR P ρ ω H w){r:Nat}{d:Option (List Deferred)}(hd:w.heap[r]?=some (.deferred d))(o:Obj):HR P ρ ω H (w.putObj r o):=by
 refine⟨λid=>?_,hr.inj,hr.fresh,λb c h=>?_⟩
 case refine_2=>
  obtain⟨⟨T,hT⟩,h2⟩:=hr.num b c h;have hb:b≠r:=λe=>by subst e;rw[hd]at hT;cases hT
  exact⟨⟨T,by rw[World.putObj_heap_other hb];exact hT⟩,h2⟩
 have key:∀{b:Nat} {x:Obj},w.heap[b]?=some x->(∀d,x≠.deferred d)->(w.putObj r o).heap[b]?=some x:=by
  intro b x h1 h2;by_cases hb:b=r
  .subst hb;rw[hd]at h1;simp only[Option.some.injEq]at h1;exact absurd h1.symm (h2 _)
  .rw[World.putObj_heap_other hb];exact h1
 have:=hr.ok id;cases ho:H.m.get .dead id with
 |dead=>trivial
 |fwd to esz n d els=>rw[ho]at this;exact this
 |arr esz n d els=>rw[ho]at this;obtain⟨i,c,T,h1,h2,h3⟩:=this;exact⟨i,c,T,h1,key h2 (λ_ h=>by cases h),h3⟩
 |ro esz n d els=>rw[ho]at this;obtain⟨i,c,T,fz,h1,h2,h3⟩:=this;exact⟨i,c,T,fz,h1,key h2 (λ_ h=>by cases h),h3⟩
 |mp es=>rw[ho]at this;obtain⟨i,en,ck,h1,h2,h3⟩:=this;exact⟨i,en,ck,h1,key h2 (λ_ h=>by cases h),h3⟩
 |lp rd env ps as bd=>rw[ho]at this;obtain⟨i,r,h1,h2,h3⟩:=this;exact⟨i,r,h1,key h2 (λ_ h=>by cases h),h3⟩
theorem uw{fn:Func}{tm:Array Value}{R:Ending->World->Prop}{base:Nat}:∀(ds:List Deferred) {w:World},DefOk base ρ H w ds->HR P ρ ω H w->
 (∀w',HR P ρ ω H w'->w'.os=w.os->w'.tape=w.tape->w'.output=w.output->w'.heap.size=w.heap.size->(∀b,(∀d∈ds,∀r,d={target:=.collected r,args:=#[]}->b≠r)->w'.heap[b]?=w.heap[b]?)->
  ∃v,(results fn tm).run P w'=.ok v w'/\R (.returned v) w')->
 LeavesInM Fence.wide 0 P fn tm R ds .returning w:=by
 intro ds
 induction ds with
 |nil=>intro w _ hr hR;exact hR w hr rfl rfl rfl rfl (λ_ _=>rfl)
 |cons d ds ih=>
  intro w hdef hr hR;obtain⟨r,h1,h2,h3,h4,h5⟩:=hdef.ok d (by simp);refine⟨by simp,.inl ⟨r,w.putObj r (.deferred none),by rw[h1],run_takeDeferred h4,?_⟩⟩;refine ih ⟨λd' hd'=>?_,(List.nodup_cons.1 hdef.nodup).2⟩ (hr.uv h4 _) λw' hr' ho ht hp hsz hk=>?_
  .obtain⟨r',g1,g2,g3,g4,g5⟩:=hdef.ok d' (by simp[hd']);have hne:r'≠r:=λh=>by subst h;exact(List.nodup_cons.1 hdef.nodup).1 (by rw[h1,<-g1];exact hd')
   exact⟨r',g1,g2,by simpa using g3,by rw[World.putObj_heap_other hne];exact g4,g5⟩
  .refine hR w' hr' ho ht hp (by rw[hsz];simp) λb hb=>?_
   rw[hk b (λd' hd' r' e=>hb d' (by simp[hd']) r' e),World.putObj_heap_other (hb d (by simp) r h1)]
end Go.Ex
namespace Go.Ex
open Go
variable{P:Program}{ρ:Rho}{ω:Nat->Value}{H:AH}{w:World}
variable{a:Act}{N:Nat}{S:List (Nat×Pth)}{A:List Nat}{G G':Ctx}{L:List AVal}{e:T8 AVal}
theorem HR.alloc(hr:HR P ρ ω H w)(ob:Obj):Step P ρ ω H w ρ H (w.alloc ob) where
 sub:=.refl _
 hr:=⟨λid=>by
  by_cases hlv:live (H.m.get .dead id)=true
  .obtain⟨j,hj,hlt⟩:=(hr.ok id).lt hlv;refine ObjOk.mono (.refl _) (λi' hi'=>?_) (hr.ok id);rw[hj]at hi';cases hi';show(w.heap.push ob)[j.blk]?=_;rw[Array.getElem?_push,if_neg (by omega)]
  .exact(hr.ok _).idle hlv (.refl _),hr.inj,hr.fresh,λb c h=>by
  obtain⟨⟨T,hT⟩,h2⟩:=hr.num b c h;have hlt:=hr.dS h;refine⟨⟨T,?_⟩,h2⟩;show(w.heap.push ob)[b]?=_
  rw[Array.getElem?_push,if_neg (by omega)];exact hT⟩
 idle:=λ_ _ h=>h
 nums:=λ_ _ h=>.inl h
 os:=rfl
 tape:=rfl
 output:=rfl
 size:=by simp
 keep:=λb hb _=>by show(w.heap.push ob)[b]?=_;rw[Array.getElem?_push,if_neg (by omega)]
 al:=λ_ _ h=>h
 imgo:=λ_ _ h=>h
 next:=Nat.le_refl _
 dom:=λ_ _ h _=>h
theorem HR.ux(hr:HR P ρ ω H w):¬Img ρ H w.heap.size:=by rintro⟨id,i,h1,h2,h3⟩;obtain⟨j,hj,hlt⟩:=(hr.ok id).lt h1;rw[h2]at hj;cases hj;omega
theorem GlobOk.mono{ρ':Rho}(hs:Sub ρ ρ')(h:GlobOk P ρ):GlobOk P ρ':=λk hk=>let ⟨b,x,y⟩:=h k hk;⟨b,hs _ _ x,y⟩
structure St(P:Program)(ω:Nat->Value)(N:Nat)(S:List (Nat×Pth))(base:Nat)(ρ:Rho)(H:AH)(e:T8 AVal)(a:Act)(w:World):Prop where
 env:EnvOk ρ ω S e a.tmps
 size:a.tmps.size=N
 hr:HR P ρ ω H w
 glob:GlobOk P ρ
 defs:DefOk base ρ H w a.defers
 base:base<=w.heap.size
theorem St.aa{base:Nat}(h:St P ω N S base ρ H e a w):RegOk ρ ω N S ⟨[],0⟩ [] e a:=⟨h.env,.start,.start,h.size⟩
def Out.state:Out->Option (T8 AVal×AH)
 |.none=>Option.none
 |.norm e H=>some (e,H)
 |.ret e H=>some (e,H)
 |.exit _ e H=>some (e,H)
def Out.way:Out->Option Exit
 |.none=>Option.none
 |.norm _ _=>some .normal
 |.ret _ _=>some .ret
 |.exit id _ _=>some (.exit id)
def Post(P:Program)(ω:Nat->Value)(N:Nat)(S:List (Nat×Pth))(base:Nat)(ρ:Rho)(H:AH)(w:World)(out:Out):Exit->Act->World->Prop:=λex a' w'=>out.way=some ex/\∃e' H',out.state=some (e',H')/\∃ρ',Step P ρ ω H w ρ' H' w'/\St P ω N S base ρ' H' e' a' w'
theorem Post.trans{base:Nat}{ρ0:Rho}{H0:AH}{w0:World}{out:Out}{ex:Exit}{a':Act}{w':World}(hs:Step P ρ0 ω H0 w0 ρ H w)(h:Post P ω N S base ρ H w out ex a' w'):Post P ω N S base ρ0 H0 w0 out ex a' w':=by obtain⟨h1,e',H',h2,ρ',h3,h4⟩:=h;exact⟨h1,e',H',h2,ρ',hs.trans h3,h4⟩
def XOk(P:Program)(ω:Nat->Value)(x:CC->T8 AVal->AH->Out):Prop:=
 ∀{N:Nat} {S:List (Nat×Pth)} {A:List Nat} {base:Nat} {ro:Option Nat} {c:Code} {cc:CC} {e:T8 AVal} {H:AH} {ρ:Rho} {a:Act} {w:World},slotsOk S=true->cCode P N S A c=some cc->
  (ro=none\/noRange cc=true)->St P ω N S base ρ H e a w->x cc e H≠.none->c.wpIn (FF ro) 0 P (Post P ω N S base ρ H w (x cc e H)) a w
def OrcOk(P:Program)(ω:Nat->Value)(f:Nat)(o:Orc):Prop:=
 ∀{args:List AVal} {H:AH} {v:AVal} {H':AH} {ρ:Rho} {w:World} {vals:List Value},orc1 o args H=.ok v H'->HR P ρ ω H w->GlobOk P ρ->All2 (VR ρ ω) args vals->
  ∃fn,P.funcs[f]?=some fn/\(fn.name== "runtime.NumGoroutine")=false/\fn.body.isNone=false/\
   CallsIn Fence.wide 0 P f vals.toArray w λ|.returned v',w'=>(∃ρ',VR ρ' ω v v'/\Step P ρ ω H w ρ' H' w')|_,_=>False
def TabOk(P:Program)(ω:Nat->Value)(T:T8 CFn):Prop:=∀f,T.get noFn (key f)=noFn\/∃fn S A,P.funcs[f]?=some fn/\cFn P S A fn=some {T.get noFn (key f)with aP:=[]}/\∀o∈(T.get noFn (key f)).aP,OrcOk P ω f o
theorem uy{l:List Orc}{args:List AVal}{H:AH}{v:AVal}{H':AH}(h:useOrc l args H=.ok v H'):∃o∈l,orc1 o args H=.ok v H':=by
 induction l with
 |nil=>cases h
 |cons o l ih=>
  unfold useOrc at h;cases hf:orc1 o args H with
  |ok v1 H1=>rw[hf]at h;exact⟨o,List.mem_cons_self ..,hf.trans h⟩
  |no=>rw[hf]at h;obtain⟨o',h1,h2⟩:=ih h;exact⟨o',List.mem_cons_of_mem _ h1,h2⟩
theorem jX{S:List (Nat×Pth)}{fn:Func}{cf:CFn}(h:cFn P S A fn=some cf):∃b c r,fn.body=some b/\(fn.name== "runtime.NumGoroutine")=false/\slotsOk S=true/\fn.params.size+fn.nfree<=fn.ntmps/\
 cCode P fn.ntmps S A b=some c/\cRes P fn.ntmps S fn.results.toList=some r/\cf=⟨cParams S 0 (fn.params.size+fn.nfree),c,r,[]⟩:=by
 unfold cFn at h;simp only[Option.bind_eq_some_iff]at h;obtain⟨b,hb,h⟩:=h;cases hq:(fn.name== "runtime.NumGoroutine" ||!slotsOk S||Nat.blt fn.ntmps (fn.params.size+fn.nfree))with
 |true=>rw[hq]at h;cases h
 |false=>
  rw[hq]at h;simp only[Bool.or_eq_false_iff]at hq;simp only[cond,Option.bind_eq_some_iff,Option.some.injEq]at h;obtain⟨c,hc,r,hr,he⟩:=h;refine⟨b,c,r,hb,hq.1.1,by simpa using hq.1.2,?_,hc,hr,he.symm⟩;rcases Nat.lt_or_ge fn.ntmps (fn.params.size+fn.nfree)with hlt|hge
  .have:Nat.blt fn.ntmps (fn.params.size+fn.nfree)=true:=Nat.ble_eq_true_of_le hlt;rw[this]at hq;cases hq.2
  .exact hge
section
variable{T:T8 CFn}{x:CC->T8 AVal->AH->Out}
theorem uz(hT:TabOk P ω T)(hx:XOk P ω x)(hbad:∀e H,x .bad e H=.none){f:Nat}{args:List AVal}{vals:List Value}{v:AVal}{H':AH}(hv:All2 (VR ρ ω) args vals)(hr:HR P ρ ω H w)(hg:GlobOk P ρ)(h:(match mkEnv (T.get noFn (key f)).params args .nil with|some e0=>finish (T.get noFn (key f)) (x (T.get noFn (key f)).body e0 H)|none=>.no)=R.ok v H') :
 ∃fn,P.funcs[f]?=some fn/\(fn.name== "runtime.NumGoroutine")=false/\fn.body.isNone=false/\
  CallsIn Fence.wide 0 P f vals.toArray w λ|.returned v',w'=>(∃ρ',VR ρ' ω v v'/\Step P ρ ω H w ρ' H' w')|_,_=>False:=by
 rcases hT f with hno|⟨fn,S,A,hf,hcf,_⟩
 .rw[hno]at h;simp only[noFn]at h;cases hm:mkEnv [] args .nil with
  |none=>rw[hm]at h;cases h
  |some e0=>rw[hm]at h;simp only[hbad]at h;cases h
 .obtain⟨b,c,r,hb,hn,hS,hnt,hc,hres,hcfe⟩:=jX hcf;generalize T.get noFn (key f)=cf at h hcfe;obtain⟨q1,q2,q3,q4⟩:=cf;simp only[CFn.mk.injEq,and_true]at hcfe;obtain⟨e1,e2,e3⟩:=hcfe;simp only at h;rw[e1,e2,e3]at h;cases hm:mkEnv (cParams S 0 (fn.params.size+fn.nfree)) args .nil with
  |none=>rw[hm]at h;cases h
  |some e0=>
   rw[hm]at h;simp only at h;refine⟨fn,hf,hn,by rw[hb];rfl,callsIn_of_wp_marks hf hb trivial ?_⟩;have hlen:=ni hm;rw[nh]at hlen;have hlen2:=hv.length;have hst:St P ω fn.ntmps S w.heap.size ρ H e0 {tmps:=vals.toArray++Array.replicate (fn.ntmps-vals.toArray.size) undef,defers:=[]} w:=⟨uk hS hv hm,by simp;omega,hr,hg,⟨λ_ h=>(by cases h),List.nodup_nil⟩,Nat.le_refl _⟩;have hne:x c e0 H≠.none:=by intro h0;rw[h0]at h;cases h
   refine wpIn_mono (hx (ro:=none) hS hc (.inl rfl) hst hne) λex a' w' hp=>?_
   obtain⟨h1,e',H2,h2,ρ',h3,h4⟩:=hp
   have fin:result H2 e' r=.ok v H'->LeavesInM Fence.wide 0 P fn a'.tmps (λ|.returned v',w'=>(∃ρ',VR ρ' ω v v'/\Step P ρ ω H w ρ' H' w')|_,_=>False) a'.defers .returning w':=by
    intro hres2;refine uw a'.defers h4.defs h4.hr λw2 hr2 ho ht hp hsz hk=>?_
    obtain⟨rfl,v',g1,g2⟩:=uu hr2 h4.env hres hres2;refine⟨v',g1,ρ',g2,?_⟩
    exact⟨h3.sub,hr2,ho.trans h3.os,ht.trans h3.tape,hp.trans h3.output,by rw[hsz];exact h3.size,λb hb hi=>(hk b (λd hd r hdr=>by
     obtain⟨r',q1,q2,_⟩:=h4.defs.ok d hd;rw[q1]at hdr;simp only[Deferred.mk.injEq,Target.collected.injEq]at hdr
     omega)).trans (h3.keep b hb hi),h3.al,h3.imgo,h3.next,h3.dom,h3.idle,h3.nums⟩
   cases hxo:x c e0 H with
   |none=>exact absurd hxo hne
   |norm e1 H1=>rw[hxo]at h h1 h2;simp only[Out.way,Option.some.injEq]at h1;subst h1;simp only[Out.state,Option.some.injEq,Prod.mk.injEq]at h2;obtain⟨rfl,rfl⟩:=h2;exact fin h
   |ret e1 H1=>rw[hxo]at h h1 h2;simp only[Out.way,Option.some.injEq]at h1;subst h1;simp only[Out.state,Option.some.injEq,Prod.mk.injEq]at h2;obtain⟨rfl,rfl⟩:=h2;exact fin h
   |exit id e1 H1=>rw[hxo]at h;cases h
theorem uA(hx:XOk P ω x){l:Pth}{i:BI}{args:List AVal}{vals:List Value}{v:AVal}{H':AH}(hl:ρ l=some i)(hv:All2 (VR ρ ω) args vals)(hr:HR P ρ ω H w)(hg:GlobOk P ρ)(h:caller T x (.yld l) args H=.ok v H'):CallOk P w vals (λv' w'=>∃ρ',VR ρ' ω v v'/\Step P ρ ω H w ρ' H' w') (.func (.yield i.blk) #[] #[]):=by
 simp only[caller]at h;have hobj:=hr.ok l;cases ho:H.m.get .dead l with
 |dead=>rw[ho]at h;cases h
 |mp _=>rw[ho]at h;cases h
 |fwd _ _ _ _ _=>rw[ho]at h;cases h
 |ro _ _ _ _=>rw[ho]at h;cases h
 |arr _ _ _ _=>rw[ho]at h;cases h
 |lp rd env ps as bd=>
  rw[ho]at h hobj;cases rd with
  |false=>cases h
  |true=>
   simp only at h;obtain⟨i',r,hi',hheap,hlo⟩:=hobj;rw[hl]at hi';cases hi';obtain⟨⟨S,A,hS,henv,hmap,hall,has,hbd⟩,hnr,hstate,hpend⟩:=hlo;cases hm:mkEnv (ps.map some) args env with
   |none=>rw[hm]at h;cases h
   |some e1=>
    rw[hm]at h;simp only at h;have hlt:∀t∈r.params.toList,t<r.tmps.size:=by intro t ht;rw[Array.all_eq_true']at hall;exact Nat.le_of_ble_eq_true (hall t (by simpa using ht))
    obtain⟨g1,g2,g3⟩:=um hS hmap hlt hv hm henv;have hfold:(r.params.zip vals.toArray).foldl (λtmps (t,a)=>tmps.setIfInBounds t a) r.tmps=(r.params.toList.zip vals).foldl (λtmps (t,a)=>tmps.setIfInBounds t a) r.tmps:=by rw[<-Array.foldl_toList,Array.toList_zip]
    refine .yield i.blk r.fn _ r.assign r.body (run_yield hheap (by simpa using g3.symm)) ?_;refine roundIn_of_wpIn trivial ?_;rw[hfold];generalize hv2:(r.params.toList.zip vals).foldl (λtmps (t,a)=>tmps.setIfInBounds t a) r.tmps=tm at g1 g2;have hst:St P ω r.tmps.size S w.heap.size ρ H e1 {tmps:=tm,defers:=[]} w:=⟨g1,g2,hr,hg,⟨λ_ h=>(by cases h),List.nodup_nil⟩,Nat.le_refl _⟩;have hne:x as e1 H≠.none:=by intro h0;rw[h0]at h;cases h
    refine wpIn_mono (hx (ro:=some i.blk) hS has (.inr hnr.1) hst hne) λex a' w' hp=>?_
    obtain⟨h1,e',H2,h2,ρ',h3,h4⟩:=hp;cases hxo:x as e1 H with
    |none=>exact absurd hxo hne
    |ret _ _=>rw[hxo]at h;cases h
    |exit _ _ _=>rw[hxo]at h;cases h
    |norm e2 H2'=>
     rw[hxo]at h h1 h2;simp only[Out.way,Option.some.injEq]at h1;subst h1;simp only[Out.state,Option.some.injEq,Prod.mk.injEq]at h2;obtain⟨rfl,rfl⟩:=h2;simp only at h;have hobj2:=h4.hr.ok l;cases ho2:H2'.m.get .dead l with
     |dead=>rw[ho2]at h;cases h
     |mp _=>rw[ho2]at h;cases h
     |fwd _ _ _ _ _=>rw[ho2]at h;cases h
     |ro _ _ _ _=>rw[ho2]at h;cases h
     |arr _ _ _ _=>rw[ho2]at h;cases h
     |lp rd2 env2 ps2 as2 bd2=>
      rw[ho2]at h hobj2;cases rd2 with
      |false=>cases h
      |true=>
       simp only at h;obtain⟨i2,r2,hi2,hheap2,hok2,hnr2,hstate2,hpend2⟩:=hobj2;have hii:i2=i:=by have:=h3.sub _ _ hl;rw[this]at hi2;cases hi2;rfl
       subst hii;have hown2:owned (H2'.m.get .dead l)=true:=by rw[ho2];rfl
       have st2:Step P ρ' ω H2' w' ρ' (H2'.set l (.lp false env2 ps2 as2 bd2)) (w'.putObj i2.blk (.loop {r2 with state:=.busy})):=
        h4.hr.set hi2 hown2 rfl rfl rfl (by simp) (λb hb=>World.putObj_heap_other hb)
         ⟨i2,_,hi2,World.putObj_heap_same (Array.getElem?_eq_some_iff.1 hheap2).1,hok2,hnr2,rfl,hpend2⟩
       refine⟨_,run_beginRound hheap2 hstate2,?_⟩;have hst2:St P ω r.tmps.size S w.heap.size ρ' (H2'.set l (.lp false env2 ps2 as2 bd2)) e2 a' (w'.putObj i2.blk (.loop {r2 with state:=.busy})):=⟨h4.env,h4.size,st2.hr,h4.glob,h4.defs.step st2,Nat.le_trans h4.base st2.size⟩;have hne2:x bd e2 (H2'.set l (.lp false env2 ps2 as2 bd2))≠.none:=by intro h0;rw[h0]at h;cases h
       refine wpIn_mono (hx (ro:=some i2.blk) hS hbd (.inr hnr.2) hst2 hne2) λex a'' w'' hp=>?_
       obtain⟨q1,e3,H3,q2,ρ3,q3,q4⟩:=hp;cases hxo2:x bd e2 (H2'.set l (.lp false env2 ps2 as2 bd2))with
       |none=>exact absurd hxo2 hne2
       |ret _ _=>rw[hxo2]at h;cases h
       |exit _ _ _=>rw[hxo2]at h;cases h
       |norm e4 H4=>
        rw[hxo2]at h q1 q2;simp only[Out.way,Option.some.injEq]at q1;subst q1;simp only[Out.state,Option.some.injEq,Prod.mk.injEq]at q2;obtain⟨rfl,rfl⟩:=q2;simp only at h;have hobj3:=q4.hr.ok l;cases ho3:H4.m.get .dead l with
        |dead=>rw[ho3]at h;cases h
        |mp _=>rw[ho3]at h;cases h
        |fwd _ _ _ _ _=>rw[ho3]at h;cases h
        |ro _ _ _ _=>rw[ho3]at h;cases h
        |arr _ _ _ _=>rw[ho3]at h;cases h
        |lp rd3 env3 ps3 as3 bd3=>
         rw[ho3]at h hobj3;cases rd3 with
         |true=>cases h
         |false=>
          simp only[R.ok.injEq]at h;obtain⟨rfl,rfl⟩:=h;obtain⟨i3,r3,hi3,hheap3,hok3,hnr3,hstate3,hpend3⟩:=hobj3;have hii:i3=i2:=by have:=q3.sub _ _ (h3.sub _ _ hl);rw[this]at hi3;cases hi3;rfl
          subst hii;have hown3:owned (H4.m.get .dead l)=true:=by rw[ho3];rfl
          have st3:Step P ρ3 ω H4 w'' ρ3 (H4.set l (.lp true env3 ps3 as3 bd3)) (w''.putObj i3.blk (.loop {r3 with state:=.ready,pending:=none})):=
           q4.hr.set hi3 hown3 rfl rfl rfl (by simp) (λb hb=>World.putObj_heap_other hb)
            ⟨i3,_,hi3,World.putObj_heap_same (Array.getElem?_eq_some_iff.1 hheap3).1,hok3,hnr3,rfl,rfl⟩
          refine⟨.bool true,_,run_endRound none hheap3,ρ3,.bool true,?_⟩;exact(h3.trans st2).trans (q3.trans st3)
theorem ed(hT:TabOk P ω T)(hx:XOk P ω x)(hbad:∀e H,x .bad e H=.none):CallerOk P ω (caller T x):=by
 intro g args H v H' ρ w g' vals h hr hg hgv hv;cases hgv with
 |fnv f caps cs hcs=>
  simp only[caller]at h;rw[ui]at h;cases hu:useOrc (T.get noFn (key f)).aP (args++caps) H with
  |ok v0 H0=>
   rw[hu]at h;simp only[R.ok.injEq]at h;obtain⟨rfl,rfl⟩:=h;obtain⟨o,ho,hgive⟩:=uy hu;rcases hT f with hno|⟨fn,S,A,hf,hcf,horc⟩
   .rw[hno]at ho;cases ho
   .obtain⟨fn,h1,h2,h3,h4⟩:=horc o ho hgive hr hg (hv.append hcs);exact .fn f cs fn h1 h2 h3 (h4.mono λe w' he=>by cases e<;>exact he)
  |no=>rw[hu]at h;obtain⟨fn,h1,h2,h3,h4⟩:=uz hT hx hbad (hv.append hcs) hr hg h;exact .fn f cs fn h1 h2 h3 h4
 |yld l i hi=>exact uA hx hi hv hr hg h
 |_=>cases h
end
end Go.Ex
namespace Go.Ex
open Go
variable{P:Program}{ρ:Rho}{ω:Nat->Value}{H:AH}{w:World}
variable{a:Act}{N:Nat}{S:List (Nat×Pth)}{A:List Nat}{G G':Ctx}{L:List AVal}{e:T8 AVal}
theorem least{p:Nat->Prop}(h:∃n,p n):∃n,p n/\∀m,p m->n<=m:=by
 classical
 obtain⟨n,hn⟩:=h
 induction n using Nat.strongRecOn with
 |_ n ih=>
  by_cases hq:∃m,m<n/\p m
  .obtain⟨m,hm,hpm⟩:=hq;exact ih m hm hpm
  .exact⟨n,hn,λm hm=>by
    rcases Nat.lt_or_ge m n with h|h
    .exact absurd ⟨m,h,hm⟩ hq
    .exact h⟩
open Classical in
theorem uB{F:Fence}{n:Nat}{Q:Exit->Act->World->Prop}{c:Code}(I:Nat->Act->World->Prop)(round:∀j a w,I j a w->c.wpIn F n P (Exit.then (λa' w'=>∃i,i<j/\I i a' w') Q) a w){j:Nat}(h:I j a w):(Code.loop c).wpIn F n P Q a w:=by
 let μ:Act->World->Nat:=λa w=>if h:∃j,I j a w then(least h).choose else 0
 refine wpIn_loop (λa w=>∃j,I j a w) μ ⟨j,h⟩ λa w hI=>?_
 have hm:=(least hI).choose_spec;have hμ:μ a w=(least hI).choose:=dif_pos hI;refine wpIn_mono (round _ a w hm.1) λex a' w' hq=>?_
 cases ex with
 |normal=>obtain⟨i,hi,hIi⟩:=hq;refine⟨⟨i,hIi⟩,?_⟩;have hI':∃j,I j a' w':=⟨i,hIi⟩;have hμ':μ a' w'=(least hI').choose:=dif_pos hI';have:=(least hI').choose_spec.2 i hIi;omega
 |exit id=>exact hq
 |goto l=>exact hq
 |ret=>exact hq
 |panic ch=>exact hq
 |outgrown=>exact hq
section
variable{T:T8 CFn}{x:CC->T8 AVal->AH->Out}
theorem nk(hω:∀i,(ω i).oneCell'=true){call:Caller}(hcall:CallerOk P ω call)(hS:slotsOk S=true){id:Nat}{ops:Array Oper}{ro:Option Nat}{base:Nat}{r:List CO}(hcomp:cOpers P N S A ops ⟨[],0⟩ ops.toList=some (r,G'))(hst:St P ω N S base ρ H e a w){L':List AVal}{e':T8 AVal}{H':AH}(hrun:runOps call r [] e H=.ok L' e' H'):(Code.region id ops false).wpIn (FF ro) 0 P (λex a' w'=>ex=.normal/\∃ρ',Step P ρ ω H w ρ' H' w'/\RegOk ρ' ω N S G' L' e' a'/\St P ω N S base ρ' H' e' a' w') a w:=by
 refine wpIn_region ?_;have hrange:List.range ops.size=List.range' 0 ops.toList.length:=by rw[List.range_eq_range'];simp
 rw[hrange];refine uh hω hcall hS ops.toList 0 rfl _ hcomp hst.hr hst.glob hst.aa rfl hst.defs hrun λρ' a' w' hs hreg hds hdef hg=>?_
 refine⟨rfl,ρ',hs,hreg,hreg.env,hreg.size,hs.hr,hg,?_,Nat.le_trans hst.base hs.size⟩;rw[hds];exact hdef
theorem nm(hω:∀i,(ω i).oneCell'=true)(hcall:CallerOk P ω (caller T x))(hx:XOk P ω x)(hS:slotsOk S=true){id:Nat}{ops:Array Oper}{ro:Option Nat}{base:Nat}{c:Operand}{ca cb:Code}{xa xb cc:CC}(ha:cCode P N S A ca=some xa)(hb:cCode P N S A cb=some xb)(hc:cRegC P N S A ops c xa xb=some cc)(hnr:ro=none\/noRange cc=true)(hst:St P ω N S base ρ H e a w)(hne:execS T x cc e H≠.none){Q Q0:Exit->Act->World->Prop}(hQ:∀ex a' w',Post P ω N S base ρ H w (execS T x cc e H) ex a' w'->Q ex a' w'):(Code.region id ops false).wpIn (FF ro) 0 P (Exit.then ((Code.cond c ca cb).wpIn (FF ro) 0 P Q) Q0) a w:=by
 unfold cRegC at hc;simp only[Option.bind_eq_some_iff]at hc;obtain⟨⟨r,G'⟩,h1,k,h2,h3⟩:=hc;simp only[Option.some.injEq]at h3;subst h3;simp only[execS,nc]at hne hQ;cases hrun:runOps (caller T x) r [] e H with
 |none=>rw[hrun]at hne;exact absurd rfl hne
 |ok L' e' H'=>
  rw[hrun]at hne hQ;simp only at hne hQ;refine wpIn_mono (nk hω hcall hS h1 hst hrun) λex a' w' hp=>?_
  obtain⟨rfl,ρ',hs,hreg,hst'⟩:=hp;have hv:=bG hst'.glob hreg.env hreg.ctx h2;show(Code.cond c ca cb).wpIn (FF ro) 0 P Q a' w'
  have hnr':ro=none\/(noRange xa=true/\noRange xb=true):=by
   rcases hnr with h|h
   .exact .inl h
   .simp only[noRange,Bool.and_eq_true]at h;exact .inr h
  generalize hkv:k.ev L' e'=kv at hv hne hQ;generalize hcv:a'.eval c=cv at hv;cases hv with
  |bool t=>
   cases t with
   |true=>refine wpIn_cond_true hcv ?_;exact wpIn_mono (hx hS ha (hnr'.imp (λh=>h) And.left) hst' hne) λex a'' w'' hp=>hQ ex a'' w'' (hp.trans hs)
   |false=>refine wpIn_cond_false hcv ?_;exact wpIn_mono (hx hS hb (hnr'.imp (λh=>h) And.right) hst' hne) λex a'' w'' hp=>hQ ex a'' w'' (hp.trans hs)
  |_=>exact absurd rfl hne
end
end Go.Ex
